import PyProof.Rows.All
import Wide.All
import OpenK.AllK
import Wide.FinOn
import HandS.ForMost
import HandS.Walk
import HandS.Gcd
import HandS.IsInst
import HandS.WideBits
import HandS.TupAny
import HandS.TupMul
import HandS.Zip
import HandS.Iter
import KE.GoesEnum
import HandS.Style
import HandS.EndBits
import HandS.Deep
import HandS.DictComp
import PyProof.NeKinds
import HandS.Small
import HandS.WordsDict
import HandS.SortInts
import Wide.Txt2
import HandS.Conv
import KE.KDictZip
import PyProof.ListNew
import PySem.Challenge.RW_deedhouses_k17_ranks_sure_and_certain_st
import PyProof.ReprBulk
set_option Elab.async false
set_option linter.all false
set_option maxRecDepth 100000
set_option maxHeartbeats 4000000
namespace Dh
open PySem PySem.Spec L2
/-- what an expression gives: a datum that stays; a list just made; a list of the frame's own, looked at; the spring -/
inductive R where
  | d (x : PyData) | f (xs : List PyData) | b (xs : List PyData) | s | m (acc : List (Key × PyData)) | n (acc : List (Key × PyData))
/-- what a slot holds -/
inductive Cl where
  | d (x : PyData) | o (xs : List PyData) | s | m (acc : List (Key × PyData))
abbrev Ev := List (Option Cl)
abbrev Sto := List Int
abbrev Mx := Ev → Sto → Option (R × Sto)
abbrev Mt := Ev → Sto → Option (Bool × Sto)
abbrev Ma := Ev → Sto → Option (List R × Sto)
abbrev Fz := Addr → Prop
/-- a list that stays -/
def FzL (K : PySem.W.Frag) (fz : Fz) (H : Hp) (a : Addr) (xs : List V) : Prop :=
  (H a = some (.lst xs) ∧ fz a) ∨ (∃ o, H a = some (.frz o (.lst xs))) ∨
    ∃ (o : Obj) (its : Array Value) (n : Nat), K.lookup a = some o ∧ o.cls = .type "list" ∧ o.dict = none ∧ o.data = .seq its n ∧ its.size ≤ sizeLine ∧ Vals xs its.toList
theorem FzL.sq {K : PySem.W.Frag} {fz : Fz} {H : Hp} {a : Addr} {xs : List V} (h : FzL K fz H a xs) : SqL K H a xs := by
  rcases h with ⟨h, _⟩ | h | h
  · exact .inl (.inl h)
  · exact .inl (.inr h)
  · exact .inr h
/-- a tuple that stays; it bears no names of its own -/
def FzT (K : PySem.W.Frag) (H : Hp) (a : Addr) (xs : List V) : Prop :=
  Rd H a (.tup xs) ∨
    ∃ (o : Obj) (its : Array Value) (n : Nat), K.lookup a = some o ∧ o.cls = .type "tuple" ∧ o.dict = none ∧ o.data = .seq its n ∧ its.size ≤ sizeLine ∧ Vals xs its.toList
theorem FzT.sq {K : PySem.W.Frag} {H : Hp} {a : Addr} {xs : List V} (h : FzT K H a xs) : SqT K H a xs := by
  rcases h with h | ⟨o, its, n, h1, h2, _, h3, h4, h5⟩
  · exact .inl h
  · exact .inr ⟨o, its, n, h1, h2, h3, h4, h5⟩
mutual
/-- the value v is the datum d, for as long as what is frozen stays -/
inductive Im (K : PySem.W.Frag) (fz : Fz) (H : Hp) : V → PyData → Prop
  | non : Im K fz H .non .none
  | bl (b : Bool) : Im K fz H (.bl b) (.bool b)
  | int (i : Int) : Im K fz H (.int i) (.int i)
  | str (x : Str) : Im K fz H (.str x) (.str x)
  | lst {a : Addr} {xs : List V} {ds : List PyData} : FzL K fz H a xs → ImA K fz H xs ds → Im K fz H (.ref a) (.list ds)
  | tup {a : Addr} {xs : List V} {ds : List PyData} : FzT K H a xs → ImA K fz H xs ds → Im K fz H (.ref a) (.tuple ds)
  | dct {a : Addr} {kvs : List (Key × V)} {ds : List (PyData × PyData)} : H a = some (.dK kvs) → fz a → ImA K fz H (kvs.map fun p => kV p.1) (ds.map (·.1)) → ImA K fz H (kvs.map (·.2)) (ds.map (·.2)) → Im K fz H (.ref a) (.dict ds)
inductive ImA (K : PySem.W.Frag) (fz : Fz) (H : Hp) : List V → List PyData → Prop
  | nil : ImA K fz H [] []
  | cons {v : V} {vs : List V} {d : PyData} {ds : List PyData} : Im K fz H v d → ImA K fz H vs ds → ImA K fz H (v :: vs) (d :: ds)
end
/-- the entries of a dict as they are tracked, and as data -/
def ImK (K : PySem.W.Frag) (fz : Fz) (H : Hp) (kvs : List (Key × V)) (acc : List (Key × PyData)) : Prop := kvs.map (·.1) = acc.map (·.1) ∧ ImA K fz H (kvs.map (·.2)) (acc.map (·.2))
/-- from one moment to a later one: what was tracked stands, but the spring; what is newly frozen was not there -/
structure Stp (sp : Option Addr) (fz : Fz) (H : Hp) (fz' : Fz) (H' : Hp) : Prop where
  mono : ∀ a, fz a → fz' a
  ext : ∀ a o, H a = some o → some a ≠ sp → H' a = some o
  new : ∀ a, fz' a → fz a ∨ (some a ≠ sp ∧ H a = none)
  trk : (∀ a, fz a → H a ≠ none) → ∀ a, fz' a → H' a ≠ none
section
variable {K : PySem.W.Frag} {sp : Option Addr} {fz fz1 fz2 : Fz} {H H1 H2 : Hp}
theorem Stp.refl : Stp sp fz H fz H := ⟨fun _ h => h, fun _ _ h _ => h, fun _ h => .inl h, fun h => h⟩
theorem Stp.back (s : Stp sp fz H fz1 H1) {a : Addr} (n : some a ≠ sp) (h : H1 a = none) : H a = none := by
  cases q : H a with
  | none => rfl
  | some o => rw [s.ext a o q n] at h; cases h
theorem Stp.trans (s : Stp sp fz H fz1 H1) (t : Stp sp fz1 H1 fz2 H2) : Stp sp fz H fz2 H2 where
  mono := fun a h => t.mono a (s.mono a h)
  ext := fun a o h n => t.ext a o (s.ext a o h n) n
  new := fun a h => by
    rcases t.new a h with h | ⟨n, h⟩
    · exact s.new a h
    · exact .inr ⟨n, s.back n h⟩
  trk := fun h => t.trk (s.trk h)
theorem Stp.nsp (s : Stp sp fz H fz1 H1) (n : ∀ a, sp = some a → ¬ fz a) : ∀ a, sp = some a → ¬ fz1 a := fun a e h => by
  rcases s.new a h with h | ⟨h, _⟩
  · exact n a e h
  · exact h e.symm
/-- a new object -/
theorem Stp.laid {a : Addr} {o : HO} (h : H a = none) : Stp sp fz H fz (upd H a o) :=
  ⟨fun _ h => h, fun b u q _ => by rw [upd_ne (ne_of_none q h)]; exact q, fun _ h => .inl h, fun t b q z => by
    by_cases e : b = a
    · subst e; rw [upd_same] at z; cases z
    · rw [upd_ne e] at z; exact t b q z⟩
/-- a new object, frozen -/
theorem Stp.frz {a : Addr} {o : HO} (h : H a = none) (n : some a ≠ sp) : Stp sp fz H (fun b => fz b ∨ b = a) (upd H a o) :=
  ⟨fun _ h => .inl h, fun b u q _ => by rw [upd_ne (ne_of_none q h)]; exact q, fun b q => by
    rcases q with q | q
    · exact .inl q
    · subst q; exact .inr ⟨n, h⟩, fun t b q z => by
    by_cases e : b = a
    · subst e; rw [upd_same] at z; cases z
    · rw [upd_ne e] at z
      rcases q with q | q
      · exact t b q z
      · exact e q⟩
/-- a list that was just made is frozen -/
theorem Stp.freeze {a : Addr} {o : HO} (s : Stp sp fz H fz1 H1) (h0 : H a = none) (n : some a ≠ sp) (h : H1 a = some o) : Stp sp fz H (fun b => fz1 b ∨ b = a) H1 :=
  ⟨fun b q => .inl (s.mono b q), s.ext, fun b q => by
    rcases q with q | q
    · exact s.new b q
    · subst q; exact .inr ⟨n, h0⟩, fun t b q z => by
    rcases q with q | q
    · exact s.trk t b q z
    · subst q; rw [h] at z; cases z⟩
def SpL (sp : Option Addr) (H : Hp) (sto : Sto) : Prop := ∀ a, sp = some a → H a = some (.lst (sto.map V.int))
theorem SpL.ne {sto : Sto} {a : Addr} {o : Option HO} (l : SpL sp H sto) (h : H a = o) (n : o ≠ some (.lst (sto.map V.int))) : some a ≠ sp := fun e => n (h.symm.trans (l a e.symm))
theorem SpL.upd {sto : Sto} {a : Addr} {o : HO} (l : SpL sp H sto) (n : some a ≠ sp) : SpL sp (L2.upd H a o) sto := fun p e => by
  have : p ≠ a := fun z => n (by rw [← z, e])
  rw [upd_ne this]
  exact l p e
/-- the value is the spring -/
def IsS (sp : Option Addr) (v : V) : Prop := ∃ a, sp = some a ∧ v = .ref a
/-- the spring stands, it is not frozen, what is frozen is tracked -/
structure Bs (sp : Option Addr) (fz : Fz) (H : Hp) (sto : Sto) : Prop where
  spl : SpL sp H sto
  nsp : ∀ a, sp = some a → ¬ fz a
  trk : ∀ a, fz a → H a ≠ none
theorem Bs.step {sto sto' : Sto} (B : Bs sp fz H sto) (s : Stp sp fz H fz1 H1) (l : SpL sp H1 sto') : Bs sp fz1 H1 sto' := ⟨l, s.nsp B.nsp, s.trk B.trk⟩
theorem ne_spring {sto : Sto} {a : Addr} {xs : List V} (l : SpL sp H sto) (h : H a = some (.tup xs)) : some a ≠ sp := by
  exact l.ne h (by intro z; cases z)
theorem SqT.stp {sto : Sto} {a : Addr} {xs : List V} (s : Stp sp fz H fz1 H1) (B : Bs sp fz H sto) (h : SqT K H a xs) : SqT K H1 a xs := by
  rcases h with (h | ⟨o, h⟩) | h
  · exact .inl (.inl (s.ext _ _ h (ne_spring B.spl h)))
  · exact .inl (.inr ⟨o, s.ext _ _ h (B.spl.ne h (by intro z; cases z))⟩)
  · exact .inr h
theorem FzT.stp {sto : Sto} {a : Addr} {xs : List V} (s : Stp sp fz H fz1 H1) (B : Bs sp fz H sto) (h : FzT K H a xs) : FzT K H1 a xs := by
  rcases h with (h | ⟨o, h⟩) | h
  · exact .inl (.inl (s.ext _ _ h (ne_spring B.spl h)))
  · exact .inl (.inr ⟨o, s.ext _ _ h (B.spl.ne h (by intro z; cases z))⟩)
  · exact .inr h
theorem FzL.stp {sto : Sto} {a : Addr} {xs : List V} (s : Stp sp fz H fz1 H1) (B : Bs sp fz H sto) (h : FzL K fz H a xs) : FzL K fz1 H1 a xs := by
  rcases h with ⟨h, f⟩ | ⟨o, h⟩ | h
  · exact .inl ⟨s.ext _ _ h (by intro e; exact B.nsp _ e.symm f), s.mono _ f⟩
  · exact .inr (.inl ⟨o, s.ext _ _ h (B.spl.ne h (by intro z; cases z))⟩)
  · exact .inr (.inr h)
mutual
theorem Im.stp {sto : Sto} (s : Stp sp fz H fz1 H1) (B : Bs sp fz H sto) : ∀ {v : V} {d : PyData}, Im K fz H v d → Im K fz1 H1 v d
  | _, _, .non => .non
  | _, _, .bl b => .bl b
  | _, _, .int i => .int i
  | _, _, .str x => .str x
  | _, _, .lst h a => .lst (h.stp s B) (ImA.stp s B a)
  | _, _, .tup h a => .tup (FzT.stp s B h) (ImA.stp s B a)
  | _, _, .dct h f a b => .dct (s.ext _ _ h (by intro e; exact B.nsp _ e.symm f)) (s.mono _ f) (ImA.stp s B a) (ImA.stp s B b)
theorem ImA.stp {sto : Sto} (s : Stp sp fz H fz1 H1) (B : Bs sp fz H sto) : ∀ {v : List V} {d : List PyData}, ImA K fz H v d → ImA K fz1 H1 v d
  | _, _, .nil => .nil
  | _, _, .cons h t => .cons (Im.stp s B h) (ImA.stp s B t)
end
mutual
theorem Im.fzm (g : ∀ a, fz a → fz1 a) : ∀ {v : V} {d : PyData}, Im K fz H v d → Im K fz1 H v d
  | _, _, .non => .non
  | _, _, .bl b => .bl b
  | _, _, .int i => .int i
  | _, _, .str x => .str x
  | _, _, .lst h a => .lst (by
      rcases h with ⟨h, f⟩ | h | h
      · exact .inl ⟨h, g _ f⟩
      · exact .inr (.inl h)
      · exact .inr (.inr h)) (ImA.fzm g a)
  | _, _, .tup h a => .tup h (ImA.fzm g a)
  | _, _, .dct h f a b => .dct h (g _ f) (ImA.fzm g a) (ImA.fzm g b)
theorem ImA.fzm (g : ∀ a, fz a → fz1 a) : ∀ {v : List V} {d : List PyData}, ImA K fz H v d → ImA K fz1 H v d
  | _, _, .nil => .nil
  | _, _, .cons h t => .cons (Im.fzm g h) (ImA.fzm g t)
end
theorem ImA.length : ∀ {v : List V} {d : List PyData}, ImA K fz H v d → v.length = d.length
  | _, _, .nil => rfl
  | _, _, .cons _ t => by rw [List.length_cons, List.length_cons, ImA.length t]
theorem ImA.at : ∀ {v : List V} {d : List PyData}, ImA K fz H v d → ∀ (i : Nat) (x : PyData), d[i]? = some x → ∃ w, v[i]? = some w ∧ Im K fz H w x
  | _, _, .nil, i, x, h => by simp at h
  | _, _, .cons h t, 0, x, e => by
    simp only [List.getElem?_cons_zero, Option.some.injEq] at e
    subst e
    exact ⟨_, rfl, h⟩
  | _, _, .cons h t, i + 1, x, e => by
    simp only [List.getElem?_cons_succ] at e ⊢
    exact ImA.at t i x e
theorem ImA.get : ∀ {v : List V} {d : List PyData}, ImA K fz H v d → ∀ (i : Nat) (w : V), v[i]? = some w → ∃ x, d[i]? = some x ∧ Im K fz H w x
  | _, _, .nil, i, x, h => by simp at h
  | _, _, .cons h t, 0, x, e => by
    simp only [List.getElem?_cons_zero, Option.some.injEq] at e
    subst e
    exact ⟨_, rfl, h⟩
  | _, _, .cons h t, i + 1, x, e => by
    simp only [List.getElem?_cons_succ] at e ⊢
    exact ImA.get t i x e
theorem ImA.append : ∀ {v : List V} {d : List PyData}, ImA K fz H v d → ∀ {v' : List V} {d' : List PyData}, ImA K fz H v' d' → ImA K fz H (v ++ v') (d ++ d')
  | _, _, .nil, _, _, h => h
  | _, _, .cons h t, _, _, h' => .cons h (t.append h')
theorem ImA.drop : ∀ {v : List V} {d : List PyData} (n : Nat), ImA K fz H v d → ImA K fz H (v.drop n) (d.drop n)
  | _, _, 0, h => by simpa using h
  | _, _, n + 1, .nil => by simpa using ImA.nil
  | _, _, n + 1, .cons h t => by simpa using ImA.drop n t
theorem ImA.take : ∀ {v : List V} {d : List PyData} (n : Nat), ImA K fz H v d → ImA K fz H (v.take n) (d.take n)
  | _, _, 0, h => by simpa using ImA.nil
  | _, _, n + 1, .nil => by simpa using ImA.nil
  | _, _, n + 1, .cons h t => by simpa using ImA.cons h (ImA.take n t)
theorem ImA.set : ∀ {v : List V} {d : List PyData} (i : Nat) {w : V} {x : PyData}, ImA K fz H v d → Im K fz H w x → ImA K fz H (v.set i w) (d.set i x)
  | _, _, i, _, _, .nil, _ => by simpa using ImA.nil
  | _, _, 0, _, _, .cons h t, q => by simpa using ImA.cons q t
  | _, _, i + 1, _, _, .cons h t, q => by simpa using ImA.cons h (ImA.set i t q)
theorem ImA.ints : ∀ (ns : List Int), ImA K fz H (ns.map V.int) (ns.map PyData.int)
  | [] => .nil
  | n :: r => .cons (.int n) (ImA.ints r)
end
/-- the context of a frame: the spring's place, what was frozen and the heap at the entry -/
structure Cn where
  sp : Option Addr
  fz0 : Fz
  H0 : Hp
def CellOk (K : PySem.W.Frag) (C : Cn) (fz : Fz) (H : Hp) (σ : St) (i : Nat) : Cl → Prop
  | .d x => ∃ v, σ[i]? = some (some v) ∧ Im K fz H v x
  | .o xs => ∃ a vs, σ[i]? = some (some (.ref a)) ∧ H a = some (.lst vs) ∧ ImA K fz H vs xs ∧ ¬ fz a ∧ some a ≠ C.sp ∧ C.H0 a = none
  | .s => ∃ a, C.sp = some a ∧ σ[i]? = some (some (.ref a))
  | .m acc => ∃ a kvs, σ[i]? = some (some (.ref a)) ∧ H a = some (.dK kvs) ∧ ImK K fz H kvs acc ∧ ¬ fz a ∧ some a ≠ C.sp ∧ C.H0 a = none
structure Fm (K : PySem.W.Frag) (C : Cn) (fz : Fz) (ρ : Ev) (sto : Sto) (σ : St) (H : Hp) : Prop where
  len : ρ.length = σ.length
  st : Stp C.sp C.fz0 C.H0 fz H
  bs : Bs C.sp fz H sto
  vars : ∀ (i : Nat) (c : Cl), ρ[i]? = some (some c) → CellOk K C fz H σ i c
  sep : ∀ (i j : Nat) (xs ys : List PyData) (a : Addr), i ≠ j → ρ[i]? = some (some (.o xs)) → ρ[j]? = some (some (.o ys)) → σ[i]? = some (some (.ref a)) → σ[j]? ≠ some (some (.ref a))
section
variable {K : PySem.W.Frag} {C : Cn} {fz fz1 : Fz} {ρ : Ev} {sto sto' : Sto} {σ : St} {H H1 : Hp}
theorem Fm.step (F : Fm K C fz ρ sto σ H) (s : Stp C.sp fz H fz1 H1) (l : SpL C.sp H1 sto') : Fm K C fz1 ρ sto' σ H1 where
  len := F.len
  st := F.st.trans s
  bs := F.bs.step s l
  vars := fun i c h => by
    have q := F.vars i c h
    cases c with
    | d x => obtain ⟨v, e, q⟩ := q; exact ⟨v, e, q.stp s F.bs⟩
    | o xs =>
      obtain ⟨a, vs, e, h1, h2, h3, h4, h5⟩ := q
      refine ⟨a, vs, e, s.ext _ _ h1 h4, h2.stp s F.bs, fun z => ?_, h4, h5⟩
      rcases s.new a z with z | ⟨_, z⟩
      · exact h3 z
      · rw [h1] at z; cases z
    | s => exact q
    | m acc =>
      obtain ⟨a, vs, e, h1, h2, h3, h4, h5⟩ := q
      refine ⟨a, vs, e, s.ext _ _ h1 h4, ⟨h2.1, h2.2.stp s F.bs⟩, fun z => ?_, h4, h5⟩
      rcases s.new a z with z | ⟨_, z⟩
      · exact h3 z
      · rw [h1] at z; cases z
  sep := F.sep
end
/-- what an expression gives, seen from the heap H at its start -/
def ImR (K : PySem.W.Frag) (sp : Option Addr) (H : Hp) (fz' : Fz) (H' : Hp) (v : V) : R → Prop
  | .d x => Im K fz' H' v x
  | .f xs => ∃ a vs, v = .ref a ∧ H' a = some (.lst vs) ∧ ImA K fz' H' vs xs ∧ ¬ fz' a ∧ some a ≠ sp ∧ H a = none
  | .b xs => ∃ a vs, v = .ref a ∧ H' a = some (.lst vs) ∧ ImA K fz' H' vs xs ∧ some a ≠ sp
  | .s => IsS sp v
  | .m acc => ∃ a kvs, v = .ref a ∧ H' a = some (.dK kvs) ∧ ImK K fz' H' kvs acc ∧ ¬ fz' a ∧ some a ≠ sp ∧ H a = none
  | .n acc => ∃ a kvs, v = .ref a ∧ H' a = some (.dK kvs) ∧ ImK K fz' H' kvs acc ∧ some a ≠ sp
section
variable {K : PySem.W.Frag} {sp : Option Addr} {fz fz1 fz2 : Fz} {H H1 H2 : Hp} {sto : Sto} {v : V} {r : R}
/-- later on -/
theorem ImR.stp (h : ImR K sp H fz1 H1 v r) (s : Stp sp fz1 H1 fz2 H2) (B : Bs sp fz1 H1 sto) : ImR K sp H fz2 H2 v r := by
  cases r with
  | d x => exact Im.stp s B h
  | f xs =>
    obtain ⟨a, vs, e, h1, h2, h3, h4, h5⟩ := h
    refine ⟨a, vs, e, s.ext _ _ h1 h4, h2.stp s B, fun z => ?_, h4, h5⟩
    rcases s.new a z with z | ⟨_, z⟩
    · exact h3 z
    · rw [h1] at z; cases z
  | b xs =>
    obtain ⟨a, vs, e, h1, h2, h4⟩ := h
    exact ⟨a, vs, e, s.ext _ _ h1 h4, h2.stp s B, h4⟩
  | s => exact h
  | m acc =>
    obtain ⟨a, vs, e, h1, h2, h3, h4, h5⟩ := h
    refine ⟨a, vs, e, s.ext _ _ h1 h4, ⟨h2.1, h2.2.stp s B⟩, fun z => ?_, h4, h5⟩
    rcases s.new a z with z | ⟨_, z⟩
    · exact h3 z
    · rw [h1] at z; cases z
  | n acc =>
    obtain ⟨a, vs, e, h1, h2, h4⟩ := h
    exact ⟨a, vs, e, s.ext _ _ h1 h4, ⟨h2.1, h2.2.stp s B⟩, h4⟩
/-- seen from an earlier start -/
theorem ImR.early (h : ImR K sp H1 fz2 H2 v r) (s : Stp sp fz H fz1 H1) : ImR K sp H fz2 H2 v r := by
  cases r with
  | d x => exact h
  | f xs =>
    obtain ⟨a, vs, e, h1, h2, h3, h4, h5⟩ := h
    exact ⟨a, vs, e, h1, h2, h3, h4, s.back h4 h5⟩
  | b xs => exact h
  | s => exact h
  | m acc =>
    obtain ⟨a, vs, e, h1, h2, h3, h4, h5⟩ := h
    exact ⟨a, vs, e, h1, h2, h3, h4, s.back h4 h5⟩
  | n acc => exact h
end
def rdE (K : PySem.W.Frag) (m : Mx) : TE := fun σ H Q => ∃ (C : Cn) (fz : Fz) (ρ : Ev) (sto : Sto) (r : R) (sto' : Sto), Fm K C fz ρ sto σ H ∧ m ρ sto = some (r, sto') ∧
  ∀ v fz' H', Stp C.sp fz H fz' H' → SpL C.sp H' sto' → ImR K C.sp H fz' H' v r → Q v H'
def rdT (K : PySem.W.Frag) (m : Mt) : TT := fun σ H Q => ∃ (C : Cn) (fz : Fz) (ρ : Ev) (sto : Sto) (r : Bool) (sto' : Sto), Fm K C fz ρ sto σ H ∧ m ρ sto = some (r, sto') ∧
  ∀ fz' H', Stp C.sp fz H fz' H' → SpL C.sp H' sto' → Q r H'
abbrev ImRs (K : PySem.W.Frag) (sp : Option Addr) (H : Hp) (fz' : Fz) (H' : Hp) : List V → List R → Prop := Paired (ImR K sp H fz' H')
def rdA (K : PySem.W.Frag) (m : Ma) : TA := fun σ H Q => ∃ (C : Cn) (fz : Fz) (ρ : Ev) (sto : Sto) (r : List R) (sto' : Sto), Fm K C fz ρ sto σ H ∧ m ρ sto = some (r, sto') ∧
  ∀ vs fz' H', Stp C.sp fz H fz' H' → SpL C.sp H' sto' → ImRs K C.sp H fz' H' vs r → Q vs H'
def SE (X : Cx) (e : Expr) (m : Mx) : Prop := PE X e (rdE X.K m)
def SB (X : Cx) (e : Expr) (m : Mt) : Prop := PT X e (rdT X.K m)
/-- a test among and | or -/
def SW (X : Cx) (e : Expr) (m : Mt) : Prop := PW X e (rdT X.K m)
def SA (X : Cx) (es : List Expr) (m : Ma) : Prop := PA X es (rdA X.K m)
theorem PE.imp {X : Cx} {e : Expr} {t t' : TE} (h : PE X e t) (q : ∀ σ H Q, t' σ H Q → t σ H Q) : PE X e t' := ⟨fun pins s σ H Q I w => h.run pins s σ H Q I (q _ _ _ w)⟩
theorem PT.imp {X : Cx} {e : Expr} {t t' : TT} (h : PT X e t) (q : ∀ σ H Q, t' σ H Q → t σ H Q) : PT X e t' := ⟨fun pins s σ H Q I w => h.run pins s σ H Q I (q _ _ _ w)⟩
theorem PW.imp {X : Cx} {e : Expr} {t t' : TT} (h : PW X e t) (q : ∀ σ H Q, t' σ H Q → t σ H Q) : PW X e t' := ⟨fun wh pins s σ H Q I w => h.run wh pins s σ H Q I (q _ _ _ w)⟩
theorem PA.imp {X : Cx} {e : List Expr} {t t' : TA} (h : PA X e t) (q : ∀ σ H Q, t' σ H Q → t σ H Q) : PA X e t' := ⟨fun p pins s σ H Q I w => h.run p pins s σ H Q I (q _ _ _ w)⟩
theorem PS.imp {X : Cx} {e : Stmt} {t t' : TS} (h : PS X e t) (q : ∀ D σ H, t' D σ H → t D σ H) : PS X e t' := ⟨fun pins s σ H D I w => h.run pins s σ H D I (q _ _ _ w)⟩
theorem PSs.imp {X : Cx} {e : List Stmt} {t t' : TS} (h : PSs X e t) (q : ∀ D σ H, t' D σ H → t D σ H) : PSs X e t' := ⟨fun pins s σ H D I w => h.run pins s σ H D I (q _ _ _ w)⟩
def bnd {α β : Type} (a : Ev → Sto → Option (α × Sto)) (f : α → Ev → Sto → Option (β × Sto)) : Ev → Sto → Option (β × Sto) := fun ρ s =>
  match a ρ s with
  | some (x, s1) => f x ρ s1
  | none => none
theorem bnd_some {α β : Type} {a : Ev → Sto → Option (α × Sto)} {f : α → Ev → Sto → Option (β × Sto)} {ρ : Ev} {s : Sto} {y : β} {s2 : Sto} (h : bnd a f ρ s = some (y, s2)) : ∃ x s1, a ρ s = some (x, s1) ∧ f x ρ s1 = some (y, s2) := by
  unfold bnd at h
  split at h
  · rename_i x s1 e
    exact ⟨x, s1, e, h⟩
  · cases h
def ret {α : Type} (x : Option α) : Sto → Option (α × Sto) := fun s => match x with | some y => some (y, s) | none => none
theorem ret_some {α : Type} {x : Option α} {s : Sto} {y : α} {s2 : Sto} (h : ret x s = some (y, s2)) : x = some y ∧ s2 = s := by
  unfold ret at h
  split at h
  · rename_i z
    cases h
    exact ⟨rfl, rfl⟩
  · cases h
/-- one value, then a rule by values -/
def m1 (f : R → Option R) (a : Mx) : Mx := bnd a fun x _ => ret (f x)
def m2 (f : R → R → Option R) (a b : Mx) : Mx := bnd a fun x => bnd b fun y _ => ret (f x y)
def mA (f : List R → Option R) (a : Ma) : Mx := bnd a fun x _ => ret (f x)
/-- by values: from a heap with the spring, the rule's reading r follows from the function f -/
def Ok1 (K : PySem.W.Frag) (r : V → Hp → VK → Prop) (f : R → Option R) : Prop := ∀ (sp : Option Addr) (fz : Fz) (H H0 : Hp) (sto : Sto) (v : V) (x z : R) (Q : VK), Bs sp fz H sto → ImR K sp H0 fz H v x → f x = some z →
  (∀ u fz' H', Stp sp fz H fz' H' → SpL sp H' sto → ImR K sp H fz' H' u z ∨ (x = z ∧ u = v) → Q u H') → r v H Q
def Ok2 (K : PySem.W.Frag) (r : R2) (f : R → R → Option R) : Prop := ∀ (sp : Option Addr) (fz : Fz) (H H0 : Hp) (sto : Sto) (v w : V) (x y z : R) (Q : VK), Bs sp fz H sto → ImR K sp H0 fz H v x → ImR K sp H0 fz H w y → f x y = some z →
  (∀ u fz' H', Stp sp fz H fz' H' → SpL sp H' sto → ImR K sp H fz' H' u z → Q u H') → r v w H Q
def OkA (K : PySem.W.Frag) (r : List V → Hp → VK → Prop) (f : List R → Option R) : Prop := ∀ (sp : Option Addr) (fz fzS : Fz) (H H0 : Hp) (sto : Sto) (vs : List V) (xs : List R) (z : R) (Q : VK), Stp sp fzS H0 fz H → Bs sp fz H sto → ImRs K sp H0 fz H vs xs → f xs = some z →
  (∀ u fz' H', Stp sp fzS H0 fz' H' → SpL sp H' sto → ImR K sp H0 fz' H' u z → Q u H') → r vs H Q
section
variable {K : PySem.W.Frag} {sp : Option Addr} {fz fz1 fz2 : Fz} {H H1 H2 : Hp} {sto : Sto}
theorem ImRs.stp : ∀ {vs : List V} {rs : List R}, ImRs K sp H fz1 H1 vs rs → Stp sp fz1 H1 fz2 H2 → Bs sp fz1 H1 sto → ImRs K sp H fz2 H2 vs rs
  | _, _, .nil, _, _ => .nil
  | _, _, .cons h t, s, B => .cons (h.stp s B) (ImRs.stp t s B)
theorem ImRs.early : ∀ {vs : List V} {rs : List R}, ImRs K sp H1 fz2 H2 vs rs → Stp sp fz H fz1 H1 → ImRs K sp H fz2 H2 vs rs
  | _, _, .nil, _ => .nil
  | _, _, .cons h t, s => .cons (h.early s) (ImRs.early t s)
end
section
variable {X : Cx} {a b : Expr} {ma mb : Mx}
/-- two expressions, then a rule -/
theorem rd_two {K : PySem.W.Frag} {r : R2} {f : R → R → Option R} (hf : Ok2 K r f) {σ : St} {H : Hp} {Q : VK} (h : rdE K (m2 f ma mb) σ H Q) : tOp r (rdE K ma) (rdE K mb) σ H Q := by
  obtain ⟨C, fz, ρ, sto, z, sto', F, e, k⟩ := h
  obtain ⟨x, s1, ea, e⟩ := bnd_some e
  obtain ⟨y, s2, eb, e⟩ := bnd_some e
  obtain ⟨ef, rfl⟩ := ret_some e
  refine ⟨C, fz, ρ, sto, x, s1, F, ea, fun v fz1 H1 st1 l1 i1 => ?_⟩
  refine ⟨C, fz1, ρ, s1, y, sto', F.step st1 l1, eb, fun w fz2 H2 st2 l2 i2 => ?_⟩
  have B1 := F.bs.step st1 l1
  refine hf C.sp fz2 H2 H sto' v w x y z Q (B1.step st2 l2) (i1.stp st2 B1) (i2.early st1) ef fun u fz3 H3 st3 l3 i3 => ?_
  exact k u fz3 H3 ((st1.trans st2).trans st3) l3 (i3.early (st1.trans st2))
theorem rd_one {K : PySem.W.Frag} {r : V → Hp → VK → Prop} {f : R → Option R} (hf : Ok1 K r f) {σ : St} {H : Hp} {Q : VK} (h : rdE K (m1 f ma) σ H Q) : tUn r (rdE K ma) σ H Q := by
  obtain ⟨C, fz, ρ, sto, z, sto', F, e, k⟩ := h
  obtain ⟨x, s1, ea, e⟩ := bnd_some e
  obtain ⟨ef, rfl⟩ := ret_some e
  refine ⟨C, fz, ρ, sto, x, sto', F, ea, fun v fz1 H1 st1 l1 i1 => ?_⟩
  refine hf C.sp fz1 H1 H sto' v x z Q (F.bs.step st1 l1) i1 ef fun u fz3 H3 st3 l3 i3 => ?_
  refine k u fz3 H3 (st1.trans st3) l3 ?_
  rcases i3 with i3 | ⟨rfl, rfl⟩
  · exact i3.early st1
  · exact i1.stp st3 (F.bs.step st1 l1)
theorem rd_args {K : PySem.W.Frag} {r : List V → Hp → VK → Prop} {f : List R → Option R} {m : Ma} (hf : OkA K r f) {σ : St} {H : Hp} {Q : VK} (h : rdE K (mA f m) σ H Q) : tCB r (rdA K m) σ H Q := by
  obtain ⟨C, fz, ρ, sto, z, sto', F, e, k⟩ := h
  obtain ⟨x, s1, ea, e⟩ := bnd_some e
  obtain ⟨ef, rfl⟩ := ret_some e
  refine ⟨C, fz, ρ, sto, x, sto', F, ea, fun v fz1 H1 st1 l1 i1 => ?_⟩
  exact hf C.sp fz1 fz H1 H sto' v x z Q st1 (F.bs.step st1 l1) i1 ef fun u fz3 H3 st3 l3 i3 => k u fz3 H3 st3 l3 i3
end
def maNil : Ma := fun _ s => some ([], s)
def maCons (a : Mx) (r : Ma) : Ma := bnd a fun x => bnd r fun xs _ s => some (x :: xs, s)
section
variable {X : Cx} {e : Expr} {es : List Expr} {me : Mx} {mr : Ma}
theorem sa_nil : SA X [] maNil := PA.imp pa_nil fun σ H Q h => by
  obtain ⟨C, fz, ρ, sto, r, sto', F, e, k⟩ := h
  cases e
  exact k [] fz H .refl F.bs.spl .nil
theorem sa_cons (he : SE X e me) (hr : SA X es mr) (hs : starEach (e :: es) X.env = (false, eval e X.env) :: starEach es X.env := by rfl) : SA X (e :: es) (maCons me mr) := PA.imp (pa_cons he hr hs) fun σ H Q h => by
  obtain ⟨C, fz, ρ, sto, r, sto', F, e, k⟩ := h
  obtain ⟨x, s1, ea, e⟩ := bnd_some e
  obtain ⟨xs, s2, eb, e⟩ := bnd_some e
  cases e
  refine ⟨C, fz, ρ, sto, x, s1, F, ea, fun v fz1 H1 st1 l1 i1 => ?_⟩
  refine ⟨C, fz1, ρ, s1, xs, sto', F.step st1 l1, eb, fun vs fz2 H2 st2 l2 i2 => ?_⟩
  exact k (v :: vs) fz2 H2 (st1.trans st2) l2 (.cons (i1.stp st2 (F.bs.step st1 l1)) (i2.early st1))
end
def rdCl : Cl → R
  | .d x => .d x
  | .o xs => .b xs
  | .s => .s
  | .m acc => .n acc
def mVar (i : Nat) : Mx := fun ρ s => match ρ[i]? with
  | some (some c) => some (rdCl c, s)
  | _ => none
def mKon (x : PyData) : Mx := fun _ s => some (.d x, s)
section
variable {X : Cx}
theorem se_var {i : Nat} {x : Str} {pos : Pos} (hN : X.N[i]? = some x := by rfl) (hv : Vis X.env.scope x := by first | exact Or.inl rfl | exact Or.inr (Or.inl rfl) | exact Or.inr (Or.inr rfl)) (hd : (x == ("__debug__" : Str)) = false := by decide)
    (hcd : (x == ("__classdict__" : Str)) = false := by decide) : SE X (.Name x pos) (mVar i) := PE.imp (pe_var hN hv hd hcd) fun σ H Q h => by
  obtain ⟨C, fz, ρ, sto, r, sto', F, e, k⟩ := h
  unfold mVar at e
  split at e
  · rename_i c hc
    cases e
    have q := F.vars i c hc
    cases c with
    | d x => obtain ⟨v, e, q⟩ := q; exact ⟨v, e, k v fz H .refl F.bs.spl q⟩
    | o xs =>
      obtain ⟨a, vs, e, h1, h2, h3, h4, h5⟩ := q
      exact ⟨_, e, k _ fz H .refl F.bs.spl ⟨a, vs, rfl, h1, h2, h4⟩⟩
    | s => obtain ⟨a, ea, q⟩ := q; exact ⟨_, q, k _ fz H .refl F.bs.spl ⟨a, ea, rfl⟩⟩
    | m acc =>
      obtain ⟨a, vs, e, h1, h2, h3, h4, h5⟩ := q
      exact ⟨_, e, k _ fz H .refl F.bs.spl ⟨a, vs, rfl, h1, h2, h4⟩⟩
  · cases e
theorem rd_kon {K : PySem.W.Frag} {v : V} {x : PyData} (hv : ∀ fz H, Im K fz H v x) {σ : St} {H : Hp} {Q : VK} (h : rdE K (mKon x) σ H Q) : tC v σ H Q := by
  obtain ⟨C, fz, ρ, sto, r, sto', F, e, k⟩ := h
  cases e
  exact k v fz H .refl F.bs.spl (hv _ _)
theorem se_int {i : Int} {j pos} : SE X (.Constant (.int i) j pos) (mKon (.int i)) := PE.imp pe_int fun _ _ _ h => rd_kon (fun _ _ => .int i) h
theorem se_bl {i : Bool} {j pos} : SE X (.Constant (.bool i) j pos) (mKon (.bool i)) := PE.imp pe_bl fun _ _ _ h => rd_kon (fun _ _ => .bl i) h
/-- a constant of the text -/
structure GlK (K : PySem.W.Frag) (mg : Str → Option Value) (x : Str) (d : PyData) : Prop where
  ex : ∃ v u, mg x = some u ∧ RelV v u ∧ ∀ fz H, Im K fz H v d
theorem se_glob {x : Str} {d : PyData} {pos : Pos} (hk : GlK X.K X.mg x d) (hg : Gl X x) (hd : (x == ("__debug__" : Str)) = false := by decide) : SE X (.Name x pos) (mKon d) := by
  obtain ⟨v, u, hm, r, q⟩ := hk.ex
  exact PE.imp (pe_glob hg hm r hd) fun _ _ _ h => rd_kon q h
end
end Dh
namespace Dh
open PySem PySem.Spec L2 PyProof.Rows
theorem tuple_mul1 (l : Addr) (items : Array Value) (n : Nat) (dd : Option Addr) (sl : Array (Option Value)) (u : Tok) :
    Meets (Builtin.«tuple.__mul__» ⟨[.ref l, .int 1 u], []⟩) (fun _ R s => s.heap.get? l = some { cls := .type "tuple", dict := dd, data := .seq items n, slots := sl } ∧ R (.ok (.ret (Value.ref l))) s) :=
  .of_wp fun prog w A R s h => by
    obtain ⟨hp, g, d, tk, os⟩ := s
    obtain ⟨hl, h⟩ := h
    have f1 := AutoSeq1.idx_int
    wp_walk using wpAny_loadPart' hl
    exact ⟨_, rfl, h⟩
def rRepT1 (K : PySem.W.Frag) : R2 := fun x y H Q => ∃ l xs, x = .ref l ∧ y = .int 1 ∧ SqT K H l xs ∧ Q (.ref l) H
section
variable {X : Cx}
theorem op_repT1 : OpR X (binaryOp .Mult) (rRepT1 X.K) := by
  intro pins s σ H x y v u Q I rx ry h
  obtain ⟨l, xs, rfl, rfl, hT, q⟩ := h
  cases rx
  obtain ⟨t, rfl⟩ := ry
  obtain ⟨its, r, ⟨⟨cls, dd, data, sl⟩, ho, hc, n, hd⟩, hs⟩ := I.tuple hT
  simp only at hc hd
  subst hc hd
  refine wpAny_binaryOp_repeat_ref (T := "tuple") (U := "int") (by decide) ⟨_, ho, rfl⟩ (fun s' => typeIs_int s' 1 t) noFill_tuple_mul F.fills_int_mul F.slot_int_rmul repeat_tuple F.slot_int_index.lookup
    (call_meets F.slot_int_rmul (typeIs_int s 1 t) F.entry_int_rmul (F.args_int_rmul_2 _ _) (int_rmul_tuple 1 t l its.toArray n dd sl)
      ⟨ho, rfl, ⟨_, ho, rfl⟩, call_meets F.slot_tuple_mul ⟨_, ho, rfl⟩ F.entry_tuple_mul (F.args_tuple_mul_2 _ _) (tuple_mul1 l its.toArray n dd sl t) ⟨ho, ?_⟩⟩)
  exact ⟨.ref l, H, I, rfl, q⟩
end
end Dh
namespace Dh
open PySem PySem.Spec L2
theorem OpR.or {X : Cx} {f : Value → Value → Sem Value} {r r' : R2} (h : OpR X f r) (h' : OpR X f r') : OpR X f (fun x y H Q => r x y H Q ∨ r' x y H Q) := fun pins s σ H x y v u Q I rx ry q => by
  rcases q with q | q
  · exact h pins s σ H x y v u Q I rx ry q
  · exact h' pins s σ H x y v u Q I rx ry q
theorem CallR.or {X : Cx} {f : Value} {r r' : List V → Hp → VK → Prop} (h : CallR X f r) (h' : CallR X f r') : CallR X f (fun x H Q => r x H Q ∨ r' x H Q) := fun pins s σ H x v Q I rx q => by
  rcases q with q | q
  · exact h pins s σ H x v Q I rx q
  · exact h' pins s σ H x v Q I rx q
section
variable {X : Cx} {a b : Expr} {ma mb : Mx} {pos : Pos}
theorem se_op {op : Operator} {r : R2} {f : R → R → Option R} (ho : OpR X (binaryOp op) r) (hf : Ok2 X.K r f) (ha : SE X a ma) (hb : SE X b mb) : SE X (.BinOp a op b pos) (m2 f ma mb) := PE.imp (pe_op ho ha hb) fun _ _ _ h => rd_two hf h
theorem se_un {op : UnaryOp} {r : V → Hp → VK → Prop} {f : R → Option R} (ho : UnR X (unaryOp op) r) (hf : Ok1 X.K r f) (ha : SE X a ma) : SE X (.UnaryOp op a pos) (m1 f ma) := PE.imp (pe_un ho ha) fun _ _ _ h => rd_one hf h
theorem se_cmp {op : CmpOp} {r : R2} {f : R → R → Option R} (ho : OpR X (compareOp op) r) (hf : Ok2 X.K r f) (ha : SE X a ma) (hb : SE X b mb) (hm : behindInMarks op b = false) : SE X (.Compare a [op] [b] pos) (m2 f ma mb) := PE.imp (pe_cmpR ho ha hb hm) fun _ _ _ h => rd_two hf h
/-- the truth of a bool -/
def bT (a : Mx) : Mt := bnd a fun x _ s => match x with | .d (.bool k) => some (k, s) | _ => none
theorem rd_bT {K : PySem.W.Frag} {m : Mx} {σ : L2.St} {H : Hp} {Q : Bool → Hp → Prop} (h : rdT K (bT m) σ H Q) : rdE K m σ H fun x H1 => ∃ c, x = .bl c ∧ Q c H1 := by
  obtain ⟨C, fz, ρ, sto, z, sto', F, e, k⟩ := h
  obtain ⟨x, s1, ea, e⟩ := bnd_some e
  split at e
  · rename_i k'
    cases e
    exact ⟨C, fz, ρ, sto, _, _, F, ea, fun v fz1 H1 st1 l1 i1 => by cases i1; exact ⟨_, rfl, k fz1 H1 st1 l1⟩⟩
  · cases e
theorem sb_val (h : SE X a ma) (he : ∀ whole, isTrue a X.env whole = (do let v ← whole; standAt a.pos; holding [v] (truthy v)) := by intro _; rfl) : SB X a (bT ma) := PT.imp (pt_val h he) fun _ _ _ q => rd_bT q
theorem sb_cmp {op : CmpOp} {r : R2} {f : R → R → Option R} (ho : OpR X (compareOp op) r) (hf : Ok2 X.K r f) (ha : SE X a ma) (hb : SE X b mb) (hm : behindInMarks op b = false) : SB X (.Compare a [op] [b] pos) (bT (m2 f ma mb)) :=
  PT.imp (pt_cmpR ho ha hb hm) fun σ H Q q => rd_two (Q := fun x H' => ∃ k, x = .bl k ∧ Q k H') hf (rd_bT q)
end
def fI (g : Int → Int → Option PyData) : R → R → Option R
  | .d (.int i), .d (.int j) => (g i j).map .d
  | _, _ => none
theorem fI_some {g : Int → Int → Option PyData} {x y z : R} (h : fI g x y = some z) : ∃ i j d, x = .d (.int i) ∧ y = .d (.int j) ∧ g i j = some d ∧ z = .d d := by
  unfold fI at h
  split at h
  · rename_i i j
    cases q : g i j with
    | none => rw [q] at h; cases h
    | some d => rw [q] at h; cases h; exact ⟨i, j, d, rfl, rfl, q, rfl⟩
  · cases h
theorem ok_I {K : PySem.W.Frag} {C : Int → Int → Prop} {gv : Int → Int → V} {g : Int → Int → Option PyData} (hg : ∀ i j d, g i j = some d → C i j ∧ ∀ fz H, Im K fz H (gv i j) d) : Ok2 K (rI C gv) (fI g) := by
  intro sp fz H H0 sto v w x y z Q B ix iy e k
  obtain ⟨i, j, d, rfl, rfl, q, rfl⟩ := fI_some e
  cases ix
  cases iy
  obtain ⟨c, im⟩ := hg i j d q
  exact ⟨i, j, rfl, rfl, c, k _ fz H .refl B.spl (im _ _)⟩
theorem ok_I0 {K : PySem.W.Frag} {gv : Int → Int → V} {g : Int → Int → Option PyData} (hg : ∀ i j d, g i j = some d → ∀ fz H, Im K fz H (gv i j) d) : Ok2 K (rI0 gv) (fI g) := by
  intro sp fz H H0 sto v w x y z Q B ix iy e k
  obtain ⟨i, j, d, rfl, rfl, q, rfl⟩ := fI_some e
  cases ix
  cases iy
  exact ⟨i, j, rfl, rfl, k _ fz H .refl B.spl (hg i j d q _ _)⟩
def gMns (i j : Int) : Option PyData := some (.int (i - j))
def gLt (i j : Int) : Option PyData := some (.bool (decide (i < j)))
def gLe (i j : Int) : Option PyData := some (.bool (decide (i ≤ j)))
def gGt (i j : Int) : Option PyData := some (.bool (decide (j < i)))
def gGe (i j : Int) : Option PyData := some (.bool (decide (j ≤ i)))
def gFdiv (i j : Int) : Option PyData := if j ≠ 0 ∧ Builtin.divisionGoesByPylong i j = false then some (.int (i.fdiv j)) else none
def gMod (i j : Int) : Option PyData := if j ≠ 0 then some (.int (i.fmod j)) else none
def gPow (i j : Int) : Option PyData := if 0 ≤ j ∧ j ≤ 1000000 ∧ i.natAbs < 2 ^ 64 then some (.int (i ^ j.toNat)) else none
/-- two factors of together at most 2^27 bits -/
def mulOk (i j : Int) : Bool := Nat.ble (Builtin.Int.intBits i + Builtin.Int.intBits j) 134217728
def CFdivP (i j : Int) : Prop := j ≠ 0 ∧ Builtin.divisionGoesByPylong i j = false
section
variable {X : Cx} {a b : Expr} {ma mb : Mx} {pos : Pos}
theorem op_fdivP : OpR X (binaryOp .FloorDiv) (rI CFdivP fun i j => .int (i.fdiv j)) := opI fun _ _ _ _ _ _ _ hc q => PyProof.Rows.floordiv_int hc.1 q (.inl hc.2)
theorem se_sub (ha : SE X a ma) (hb : SE X b mb) : SE X (.BinOp a .Sub b pos) (m2 (fI gMns) ma mb) := se_op op_sub (ok_I0 fun i j d e _ _ => by cases e; exact .int _) ha hb
theorem se_fdiv (ha : SE X a ma) (hb : SE X b mb) : SE X (.BinOp a .FloorDiv b pos) (m2 (fI gFdiv) ma mb) := se_op op_fdivP (ok_I fun i j d e => by
  unfold gFdiv at e
  split at e
  · rename_i c; cases e; exact ⟨c, fun _ _ => .int _⟩
  · cases e) ha hb
theorem se_mod (ha : SE X a ma) (hb : SE X b mb) : SE X (.BinOp a .Mod b pos) (m2 (fI gMod) ma mb) := se_op op_modN (ok_I fun i j d e => by
  unfold gMod at e
  split at e
  · rename_i c; cases e; exact ⟨c, fun _ _ => .int _⟩
  · cases e) ha hb
theorem se_pow (ha : SE X a ma) (hb : SE X b mb) : SE X (.BinOp a .Pow b pos) (m2 (fI gPow) ma mb) := se_op op_pow (ok_I fun i j d e => by
  unfold gPow at e
  split at e
  · rename_i c; cases e; exact ⟨c, fun _ _ => .int _⟩
  · cases e) ha hb
theorem ok_lt {K : PySem.W.Frag} : Ok2 K (rI0 fun i j => .bl (decide (i < j))) (fI gLt) := ok_I0 fun i j d e _ _ => by cases e; exact .bl _
theorem ok_le {K : PySem.W.Frag} : Ok2 K (rI0 fun i j => .bl (decide (i ≤ j))) (fI gLe) := ok_I0 fun i j d e _ _ => by cases e; exact .bl _
theorem ok_gt {K : PySem.W.Frag} : Ok2 K (rI0 fun i j => .bl (decide (j < i))) (fI gGt) := ok_I0 fun i j d e _ _ => by cases e; exact .bl _
theorem ok_ge {K : PySem.W.Frag} : Ok2 K (rI0 fun i j => .bl (decide (j ≤ i))) (fI gGe) := ok_I0 fun i j d e _ _ => by cases e; exact .bl _
theorem se_lt (ha : SE X a ma) (hb : SE X b mb) : SE X (.Compare a [.Lt] [b] pos) (m2 (fI gLt) ma mb) := se_cmp op_lt ok_lt ha hb (nomark _)
theorem se_gt (ha : SE X a ma) (hb : SE X b mb) : SE X (.Compare a [.Gt] [b] pos) (m2 (fI gGt) ma mb) := se_cmp op_gt ok_gt ha hb (nomark _)
theorem sb_lt (ha : SE X a ma) (hb : SE X b mb) : SB X (.Compare a [.Lt] [b] pos) (bT (m2 (fI gLt) ma mb)) := sb_cmp op_lt ok_lt ha hb (nomark _)
theorem sb_le (ha : SE X a ma) (hb : SE X b mb) : SB X (.Compare a [.LtE] [b] pos) (bT (m2 (fI gLe) ma mb)) := sb_cmp op_le ok_le ha hb (nomark _)
theorem sb_gt (ha : SE X a ma) (hb : SE X b mb) : SB X (.Compare a [.Gt] [b] pos) (bT (m2 (fI gGt) ma mb)) := sb_cmp op_gt ok_gt ha hb (nomark _)
theorem sb_ge (ha : SE X a ma) (hb : SE X b mb) : SB X (.Compare a [.GtE] [b] pos) (bT (m2 (fI gGe) ma mb)) := sb_cmp op_ge ok_ge ha hb (nomark _)
def fNeg : R → Option R
  | .d (.int i) => some (.d (.int (-i)))
  | _ => none
theorem se_neg (ha : SE X a ma) : SE X (.UnaryOp .USub a pos) (m1 fNeg ma) := se_un un_neg (by
  intro sp fz H H0 sto v x z Q B ix e k
  unfold fNeg at e
  split at e
  · cases e
    cases ix
    exact ⟨_, rfl, k _ fz H .refl B.spl (.inl (.int _))⟩
  · cases e) ha
end
/-- a list that is looked at -/
def rdL : R → Option (List PyData)
  | .d (.list xs) => some xs
  | .f xs => some xs
  | .b xs => some xs
  | _ => none
/-- where it stands -/
theorem ImR.list {K : PySem.W.Frag} {sp : Option Addr} {fz : Fz} {H H0 : Hp} {v : V} {x : R} {xs : List PyData} (i : ImR K sp H0 fz H v x) (e : rdL x = some xs) : ∃ a vs, v = .ref a ∧ SqL K H a vs ∧ ImA K fz H vs xs := by
  unfold rdL at e
  split at e
  · cases e
    cases i with
    | lst h a => exact ⟨_, _, rfl, h.sq, a⟩
  · cases e
    obtain ⟨a, vs, e, h1, h2, _⟩ := i
    exact ⟨a, vs, e, .inl (.inl h1), h2⟩
  · cases e
    obtain ⟨a, vs, e, h1, h2, _⟩ := i
    exact ⟨a, vs, e, .inl (.inl h1), h2⟩
  · cases e
def rdQ : R → Option (List PyData)
  | .d (.tuple xs) => some xs
  | r => rdL r
theorem ImR.seq {K : PySem.W.Frag} {sp : Option Addr} {fz : Fz} {H H0 : Hp} {v : V} {x : R} {xs : List PyData} (i : ImR K sp H0 fz H v x) (e : rdQ x = some xs) : ∃ a vs, v = .ref a ∧ (SqL K H a vs ∨ SqT K H a vs) ∧ ImA K fz H vs xs := by
  unfold rdQ at e
  split at e
  · cases e
    cases i with
    | tup h a => exact ⟨_, _, rfl, .inr h.sq, a⟩
  · obtain ⟨a, vs, e1, h1, h2⟩ := i.list e
    exact ⟨a, vs, e1, .inl h1, h2⟩
theorem ImR.tup {K : PySem.W.Frag} {sp : Option Addr} {fz : Fz} {H H0 : Hp} {v : V} {xs : List PyData} (i : ImR K sp H0 fz H v (.d (.tuple xs))) : ∃ a vs, v = .ref a ∧ SqT K H a vs ∧ ImA K fz H vs xs := by
  cases i with
  | tup h a => exact ⟨_, _, rfl, h.sq, a⟩
theorem ImR.tupF {K : PySem.W.Frag} {sp : Option Addr} {fz : Fz} {H H0 : Hp} {v : V} {xs : List PyData} (i : ImR K sp H0 fz H v (.d (.tuple xs))) : ∃ a vs, v = .ref a ∧ FzT K H a vs ∧ ImA K fz H vs xs := by
  cases i with
  | tup h a => exact ⟨_, _, rfl, h, a⟩
/-- a new tuple of data -/
theorem new_tup {K : PySem.W.Frag} {sp : Option Addr} {fz : Fz} {H : Hp} {sto : Sto} {p : Addr} {vs : List V} {xs : List PyData} (B : Bs sp fz H sto) (a : ImA K fz H vs xs) (hp : H p = none) :
    Stp sp fz H fz (upd H p (.tup vs)) ∧ SpL sp (upd H p (.tup vs)) sto ∧ Im K fz (upd H p (.tup vs)) (.ref p) (.tuple xs) := by
  have s : Stp sp fz H fz (upd H p (.tup vs)) := .laid hp
  have e : some p ≠ sp := B.spl.ne hp (by intro z; cases z)
  exact ⟨s, B.spl.upd e, .tup (.inl (.inl upd_same)) (a.stp s B)⟩
/-- a new list of data -/
theorem new_lst {K : PySem.W.Frag} {sp : Option Addr} {fz : Fz} {H : Hp} {sto : Sto} {p : Addr} {vs : List V} {xs : List PyData} (B : Bs sp fz H sto) (a : ImA K fz H vs xs) (hp : H p = none) :
    Stp sp fz H fz (upd H p (.lst vs)) ∧ SpL sp (upd H p (.lst vs)) sto ∧ ImR K sp H fz (upd H p (.lst vs)) (.ref p) (.f xs) := by
  have s : Stp sp fz H fz (upd H p (.lst vs)) := .laid hp
  have e : some p ≠ sp := B.spl.ne hp (by intro z; cases z)
  exact ⟨s, B.spl.upd e, ⟨p, vs, rfl, upd_same, a.stp s B, fun q => B.trk p q hp, e, hp⟩⟩
def fAdd : R → R → Option R
  | .d (.int i), .d (.int j) => some (.d (.int (i + j)))
  | .d (.str x), .d (.str y) => if x.length + y.length ≤ sizeLine then some (.d (.str (x ++ y))) else none
  | .d (.tuple xs), .d (.tuple ys) => if xs.length + ys.length ≤ sizeLine then some (.d (.tuple (xs ++ ys))) else none
  | .f xs, .f ys => if xs.length + ys.length ≤ sizeLine then some (.f (xs ++ ys)) else none
  | .f xs, .b ys => if xs.length + ys.length ≤ sizeLine then some (.f (xs ++ ys)) else none
  | .b xs, .f ys => if xs.length + ys.length ≤ sizeLine then some (.f (xs ++ ys)) else none
  | .b xs, .b ys => if xs.length + ys.length ≤ sizeLine then some (.f (xs ++ ys)) else none
  | _, _ => none
def rAdd (K : PySem.W.Frag) : R2 := fun x y H Q => rI0 (fun i j => .int (i + j)) x y H Q ∨ (∃ i j, x = .str i ∧ y = .str j ∧ i.length + j.length ≤ sizeLine ∧ Q (.str (i ++ j)) H) ∨ rCatA K x y H Q ∨ rCat x y H Q
/-- a tracked list (own, or just made) -/
def trL : R → Option (List PyData)
  | .f xs => some xs
  | .b xs => some xs
  | _ => none
theorem ImR.trk {K : PySem.W.Frag} {sp : Option Addr} {fz : Fz} {H H0 : Hp} {v : V} {x : R} {xs : List PyData} (i : ImR K sp H0 fz H v x) (e : trL x = some xs) : ∃ a vs, v = .ref a ∧ H a = some (.lst vs) ∧ ImA K fz H vs xs := by
  unfold trL at e
  split at e
  · cases e
    obtain ⟨a, vs, e, h1, h2, _⟩ := i
    exact ⟨a, vs, e, h1, h2⟩
  · cases e
    obtain ⟨a, vs, e, h1, h2, _⟩ := i
    exact ⟨a, vs, e, h1, h2⟩
  · cases e
theorem ok_cat {K : PySem.W.Frag} {sp : Option Addr} {fz : Fz} {H H0 : Hp} {sto : Sto} {v w : V} {x y : R} {xs ys : List PyData} {Q : VK} (B : Bs sp fz H sto) (ix : ImR K sp H0 fz H v x) (iy : ImR K sp H0 fz H w y) (ex : trL x = some xs) (ey : trL y = some ys) (hz : xs.length + ys.length ≤ sizeLine)
    (k : ∀ u fz' H', Stp sp fz H fz' H' → SpL sp H' sto → ImR K sp H fz' H' u (.f (xs ++ ys)) → Q u H') : rCat v w H Q := by
  obtain ⟨a, vs, rfl, h1, h2⟩ := ix.trk ex
  obtain ⟨b, ws, rfl, h3, h4⟩ := iy.trk ey
  refine ⟨a, b, vs, ws, rfl, rfl, h1, h3, by rw [h2.length, h4.length]; exact hz, fun p hp => ?_⟩
  obtain ⟨s, l, i⟩ := new_lst B (h2.append h4) hp
  exact k _ fz _ s l i
theorem ok_add {K : PySem.W.Frag} : Ok2 K (rAdd K) fAdd := by
  intro sp fz H H0 sto v w x y z Q B ix iy e k
  unfold fAdd at e
  split at e
  · cases e; cases ix; cases iy
    exact .inl ⟨_, _, rfl, rfl, k _ fz H .refl B.spl (.int _)⟩
  · split at e
    · rename_i hz
      cases e; cases ix; cases iy
      exact .inr (.inl ⟨_, _, rfl, rfl, hz, k _ fz H .refl B.spl (.str _)⟩)
    · cases e
  · split at e
    · rename_i xs ys hz
      cases e
      obtain ⟨a, vs, rfl, h1, h2⟩ := ix.tupF
      obtain ⟨b, ws, rfl, h3, h4⟩ := iy.tupF
      refine .inr (.inr (.inl ⟨a, b, vs, ws, rfl, rfl, h1.sq, h3.sq, by rw [h2.length, h4.length]; exact hz, fun q => ?_, fun _ q => ?_, fun _ _ p hp => ?_⟩))
      · subst q
        have q2 : xs = [] := List.length_eq_zero_iff.mp h2.length.symm
        subst q2
        exact k _ fz H .refl B.spl (show Im K fz H _ _ from .tup h3 h4)
      · subst q
        have q2 : ys = [] := List.length_eq_zero_iff.mp h4.length.symm
        subst q2
        exact k _ fz H .refl B.spl (show Im K fz H _ _ from .tup h1 (by rw [List.append_nil]; exact h2))
      · obtain ⟨s, l, i⟩ := new_tup B (h2.append h4) hp
        exact k _ fz _ s l i
    · cases e
  · split at e
    · rename_i hz; cases e
      exact .inr (.inr (.inr (ok_cat B ix iy rfl rfl hz k)))
    · cases e
  · split at e
    · rename_i hz; cases e
      exact .inr (.inr (.inr (ok_cat B ix iy rfl rfl hz k)))
    · cases e
  · split at e
    · rename_i hz; cases e
      exact .inr (.inr (.inr (ok_cat B ix iy rfl rfl hz k)))
    · cases e
  · split at e
    · rename_i hz; cases e
      exact .inr (.inr (.inr (ok_cat B ix iy rfl rfl hz k)))
    · cases e
  · cases e
section
variable {X : Cx} {a b : Expr} {ma mb : Mx} {pos : Pos}
theorem se_add (ha : SE X a ma) (hb : SE X b mb) : SE X (.BinOp a .Add b pos) (m2 fAdd ma mb) := se_op (op_add.or (op_add_str.or (op_catA.or op_cat))) ok_add ha hb
end
def fMul : R → R → Option R
  | .d (.int i), .d (.int j) => if mulOk i j = true then some (.d (.int (i * j))) else none
  | .d (.tuple xs), .d (.int k) => if k = 1 then some (.d (.tuple xs)) else if xs ≠ [] ∧ 2 ≤ k ∧ k ≤ 1000 ∧ xs.length ≤ 1000 then some (.d (.tuple (List.replicate k.toNat xs).flatten)) else none
  | .f xs, .d (.int k) => if 0 ≤ k ∧ k < 2 ^ 63 ∧ xs.length * k.toNat ≤ sizeLine then some (.f (List.replicate k.toNat xs).flatten) else none
  | .b xs, .d (.int k) => if 0 ≤ k ∧ k < 2 ^ 63 ∧ xs.length * k.toNat ≤ sizeLine then some (.f (List.replicate k.toNat xs).flatten) else none
  | _, _ => none
theorem ImA.rep {K : PySem.W.Frag} {fz : Fz} {H : Hp} {vs : List V} {xs : List PyData} (h : ImA K fz H vs xs) : ∀ n : Nat, ImA K fz H (List.replicate n vs).flatten (List.replicate n xs).flatten
  | 0 => by simpa using ImA.nil
  | n + 1 => by
    rw [List.replicate_succ, List.replicate_succ, List.flatten_cons, List.flatten_cons]
    exact h.append (h.rep n)
theorem ok_rep {K : PySem.W.Frag} {sp : Option Addr} {fz : Fz} {H H0 : Hp} {sto : Sto} {v : V} {x : R} {xs : List PyData} {j : Int} {Q : VK} (B : Bs sp fz H sto) (ix : ImR K sp H0 fz H v x) (ex : trL x = some xs) (hz : 0 ≤ j ∧ j < 2 ^ 63 ∧ xs.length * j.toNat ≤ sizeLine)
    (k : ∀ u fz' H', Stp sp fz H fz' H' → SpL sp H' sto → ImR K sp H fz' H' u (.f (List.replicate j.toNat xs).flatten) → Q u H') : rRep v (.int j) H Q := by
  obtain ⟨a, vs, rfl, h1, h2⟩ := ix.trk ex
  refine ⟨a, j, vs, rfl, rfl, h1, by omega, hz.2.1, by rw [h2.length]; exact hz.2.2, fun p hp => ?_⟩
  obtain ⟨s, l, i⟩ := new_lst B (h2.rep j.toNat) hp
  exact k _ fz _ s l i
theorem ok_mul {K : PySem.W.Frag} : Ok2 K (fun x y H Q => rI CMulX (fun i j => .int (i * j)) x y H Q ∨ rRepT K x y H Q ∨ rRepT1 K x y H Q ∨ rRep x y H Q) fMul := by
  intro sp fz H H0 sto v w x y z Q B ix iy e k
  unfold fMul at e
  split at e
  · split at e
    · rename_i hz; cases e; cases ix; cases iy
      exact .inl ⟨_, _, rfl, rfl, (by unfold CMulX; have := Nat.le_of_ble_eq_true hz; omega), k _ fz H .refl B.spl (.int _)⟩
    · cases e
  · split at e
    · rename_i xs j hk
      subst hk
      cases e; cases iy
      obtain ⟨a, vs, rfl, h1, h2⟩ := ix.tupF
      exact .inr (.inr (.inl ⟨a, vs, rfl, rfl, h1.sq, k _ fz H .refl B.spl (show Im K fz H _ _ from .tup h1 h2)⟩))
    · split at e
      · rename_i xs j _ hz
        cases e; cases iy
        obtain ⟨a, vs, rfl, h1, h2⟩ := ix.tup
        refine .inr (.inl ⟨a, j, vs, rfl, rfl, h1, fun q => ?_, hz.2.1, hz.2.2.1, by rw [h2.length]; exact hz.2.2.2, fun p hp => ?_⟩)
        · subst q; exact hz.1 (List.length_eq_zero_iff.mp h2.length.symm)
        · obtain ⟨s, l, i⟩ := new_tup B (h2.rep j.toNat) hp
          exact k _ fz _ s l i
      · cases e
  · split at e
    · rename_i hz; cases e; cases iy
      exact .inr (.inr (.inr (ok_rep B ix rfl hz k)))
    · cases e
  · split at e
    · rename_i hz; cases e; cases iy
      exact .inr (.inr (.inr (ok_rep B ix rfl hz k)))
    · cases e
  · cases e
section
variable {X : Cx} {a b : Expr} {ma mb : Mx} {pos : Pos}
theorem se_mul (ha : SE X a ma) (hb : SE X b mb) : SE X (.BinOp a .Mult b pos) (m2 fMul ma mb) := se_op (op_mulX.or (op_repT.or (op_repT1.or op_rep))) ok_mul ha hb
end
section
variable {X : Cx} {pins : List (Addr × Obj)} {σ : L2.St} {H : Hp} {s : Shared} {fz : Fz}
mutual
def noDict : PyData → Bool
  | .list xs => noDicts xs
  | .tuple xs => noDicts xs
  | .dict _ => false
  | _ => true
def noDicts : List PyData → Bool
  | [] => true
  | x :: xs => noDict x && noDicts xs
end
mutual
theorem Im.dp : ∀ {v : V} {d : PyData}, Im X.K fz H v d → noDict d = true → Dp X.K H v d
  | _, _, .non, _ => .non
  | _, _, .bl b, _ => .bl b
  | _, _, .int i, _ => .int i
  | _, _, .str x, _ => .str x
  | _, _, .lst h a, q => .lst h.sq (ImA.dp a (by simpa [noDict] using q))
  | _, _, .tup h a, q => .tup h.sq (ImA.dp a (by simpa [noDict] using q))
  | _, _, .dct _ _ _ _, q => by simp [noDict] at q
theorem ImA.dp : ∀ {v : List V} {d : List PyData}, ImA X.K fz H v d → noDicts d = true → DpAll X.K H v d
  | _, _, .nil, _ => .nil
  | _, _, .cons h t, q => by
    simp only [noDicts, Bool.and_eq_true] at q
    exact .cons (Im.dp h q.1) (ImA.dp t q.2)
end
/-- any datum that is looked at -/
def rdD : R → Option PyData
  | .d x => some x
  | .f xs => some (.list xs)
  | .b xs => some (.list xs)
  | _ => none
theorem ImR.dp {sp : Option Addr} {H0 : Hp} {v : V} {x : R} {d : PyData} (i : ImR X.K sp H0 fz H v x) (e : rdD x = some d) (hn : noDict d = true) : Dp X.K H v d := by
  cases x with
  | d x => cases e; exact Im.dp i hn
  | f xs =>
    cases e
    obtain ⟨a, vs, rfl, h1, h2, _⟩ := i
    exact .lst (.inl (.inl h1)) (ImA.dp h2 (by simpa [noDict] using hn))
  | b xs =>
    cases e
    obtain ⟨a, vs, rfl, h1, h2, _⟩ := i
    exact .lst (.inl (.inl h1)) (ImA.dp h2 (by simpa [noDict] using hn))
  | s => cases e
  | m _ => cases e
  | n _ => cases e
end
/-- data that == may be asked of here -/
def eqOk (d : PyData) : Bool := noDict d && SeqAt.shaped d
def fEqD (neg : Bool) : R → R → Option R := fun x y => match rdD x, rdD y with
  | some d, some e => if eqOk d = true ∧ eqOk e = true then some (.d (.bool (if neg then !PyData.eqv d e else PyData.eqv d e))) else none
  | _, _ => none
def strOf : R → Option Str
  | .d (.str x) => some x
  | _ => none
/-- ==; of any two texts, or of two data without a dict that are not too deep -/
def fEq (neg : Bool) : R → R → Option R := fun x y => match strOf x, strOf y with
  | some a, some b => some (.d (.bool (if neg then !(a == b) else a == b)))
  | _, _ => fEqD neg x y
section
variable {X : Cx} {a b : Expr} {ma mb : Mx} {pos : Pos}
theorem strOf_some {x : R} {a : Str} (h : strOf x = some a) : x = .d (.str a) := by
  unfold strOf at h
  split at h
  · cases h; rfl
  · cases h
theorem fEq_some {neg : Bool} {x y z : R} (h : fEqD neg x y = some z) : ∃ d e, rdD x = some d ∧ rdD y = some e ∧ noDict d = true ∧ noDict e = true ∧ SeqAt.shaped d = true ∧ SeqAt.shaped e = true ∧ z = .d (.bool (if neg then !PyData.eqv d e else PyData.eqv d e)) := by
  unfold fEqD at h
  split at h
  · rename_i d e h1 h2
    split at h
    · rename_i hz
      cases h
      simp only [eqOk, Bool.and_eq_true] at hz
      exact ⟨d, e, h1, h2, hz.1.1, hz.2.1, hz.1.2, hz.2.2, rfl⟩
    · cases h
  · cases h
theorem ok_eq : Ok2 X.K (fun x y H Q => rEq x y H Q ∨ rEqD X.K x y H Q) (fEq false) := by
  intro sp fz H H0 sto v w x y z Q B ix iy h k
  unfold fEq at h
  split at h
  · rename_i a b ea eb
    cases strOf_some ea
    cases strOf_some eb
    cases h
    cases ix
    cases iy
    exact .inl ⟨rfl, k _ fz H .refl B.spl (by rw [dec_str]; exact .bl _)⟩
  · obtain ⟨d, e, h1, h2, n1, n2, s1, s2, rfl⟩ := fEq_some h
    exact .inr ⟨d, e, ix.dp h1 n1, iy.dp h2 n2, s1, s2, k _ fz H .refl B.spl (.bl _)⟩
theorem ok_ne : Ok2 X.K (fun x y H Q => rNe x y H Q ∨ rNeD X.K x y H Q) (fEq true) := by
  intro sp fz H H0 sto v w x y z Q B ix iy h k
  unfold fEq at h
  split at h
  · rename_i a b ea eb
    cases strOf_some ea
    cases strOf_some eb
    cases h
    cases ix
    cases iy
    exact .inl ⟨rfl, k _ fz H .refl B.spl (by rw [dec_str]; exact .bl _)⟩
  · obtain ⟨d, e, h1, h2, n1, n2, s1, s2, rfl⟩ := fEq_some h
    exact .inr ⟨d, e, ix.dp h1 n1, iy.dp h2 n2, s1, s2, k _ fz H .refl B.spl (.bl _)⟩
theorem se_eq {k : Nat} (hr : Room k X.A) (ha : SE X a ma) (hb : SE X b mb) : SE X (.Compare a [.Eq] [b] pos) (m2 (fEq false) ma mb) := se_cmp (op_eq.or (op_eqD hr.units)) ok_eq ha hb (nomark _)
theorem se_ne {k : Nat} (hr : Room k X.A) (ha : SE X a ma) (hb : SE X b mb) : SE X (.Compare a [.NotEq] [b] pos) (m2 (fEq true) ma mb) := se_cmp (op_ne.or (op_neD hr.units)) ok_ne ha hb (nomark _)
theorem sb_eq {k : Nat} (hr : Room k X.A) (ha : SE X a ma) (hb : SE X b mb) : SB X (.Compare a [.Eq] [b] pos) (bT (m2 (fEq false) ma mb)) := sb_cmp (op_eq.or (op_eqD hr.units)) ok_eq ha hb (nomark _)
theorem sb_ne {k : Nat} (hr : Room k X.A) (ha : SE X a ma) (hb : SE X b mb) : SB X (.Compare a [.NotEq] [b] pos) (bT (m2 (fEq true) ma mb)) := sb_cmp (op_ne.or (op_neD hr.units)) ok_ne ha hb (nomark _)
end
/-- two comparisons of ints -/
def mChain (g1 g2 : Int → Int → Option PyData) (a b c : Mx) : Mx := bnd a fun x => bnd b fun y => bnd (fun _ => ret (fI g1 x y)) fun z => match z with
  | .d (.bool true) => bnd c fun w _ => ret (fI g2 y w)
  | .d (.bool false) => fun _ s => some (.d (.bool false), s)
  | _ => fun _ _ => none
theorem rd_chain {K : PySem.W.Frag} {r r' : R2} {g1 g2 : Int → Int → Option PyData} (h1 : Ok2 K r (fI g1)) (h2 : Ok2 K r' (fI g2)) {ma mb mc : Mx} {σ : L2.St} {H : Hp} {Q : VK} (h : rdE K (mChain g1 g2 ma mb mc) σ H Q) :
    tChain r r' (rdE K ma) (rdE K mb) (rdE K mc) σ H Q := by
  obtain ⟨C, fz, ρ, sto, z, sto', F, e, k⟩ := h
  obtain ⟨x, s1, ea, e1⟩ := bnd_some e
  obtain ⟨y, s2, eb, e2⟩ := bnd_some e1
  obtain ⟨z1, s3, ec, e3⟩ := bnd_some e2
  clear e e1 e2
  obtain ⟨ef, rfl⟩ := ret_some ec
  refine ⟨C, fz, ρ, sto, x, s1, F, ea, fun v fz1 H1 st1 l1 i1 => ?_⟩
  refine ⟨C, fz1, ρ, s1, y, s3, F.step st1 l1, eb, fun w fz2 H2 st2 l2 i2 => ?_⟩
  have B1 := F.bs.step st1 l1
  have B2 := B1.step st2 l2
  refine h1 C.sp fz2 H2 H s3 v w x y z1 _ B2 (i1.stp st2 B1) (i2.early st1) ef fun u fz3 H3 st3 l3 i3 => ?_
  have B3 := B2.step st3 l3
  split at e3
  · cases i3
    obtain ⟨y', s4, ed, e4⟩ := bnd_some e3
    obtain ⟨eg, rfl⟩ := ret_some e4
    refine ⟨true, rfl, ?_⟩
    refine ⟨C, fz3, ρ, s3, y', sto', ((F.step st1 l1).step st2 l2).step st3 l3, ed, fun w' fz4 H4 st4 l4 i4 => ?_⟩
    have B4 := B3.step st4 l4
    refine h2 C.sp fz4 H4 H sto' w w' y y' z _ B4 ((i2.early st1).stp (st3.trans st4) B2) (i4.early ((st1.trans st2).trans st3)) eg fun u fz5 H5 st5 l5 i5 => ?_
    exact k u fz5 H5 ((((st1.trans st2).trans st3).trans st4).trans st5) l5 (i5.early (((st1.trans st2).trans st3).trans st4))
  · cases i3
    cases e3
    exact ⟨false, rfl, k _ fz3 H3 ((st1.trans st2).trans st3) l3 (.bl _)⟩
  · cases e3
section
variable {X : Cx} {a b c : Expr} {ma mb mc : Mx} {pos : Pos}
theorem se_lelt (ha : SE X a ma) (hb : SE X b mb) (hc : SE X c mc) (hm : lastMarks [.LtE, .Lt] [b, c] = false := by rfl) : SE X (.Compare a [.LtE, .Lt] [b, c] pos) (mChain gLe gLt ma mb mc) := PE.imp (pe_chain op_le op_lt ha hb hc hm) fun _ _ _ h => rd_chain ok_le ok_lt h
theorem se_lele (ha : SE X a ma) (hb : SE X b mb) (hc : SE X c mc) (hm : lastMarks [.LtE, .LtE] [b, c] = false := by rfl) : SE X (.Compare a [.LtE, .LtE] [b, c] pos) (mChain gLe gLe ma mb mc) := PE.imp (pe_chain op_le op_le ha hb hc hm) fun _ _ _ h => rd_chain ok_le ok_le h
theorem sb_lelt (ha : SE X a ma) (hb : SE X b mb) (hc : SE X c mc) (hm : lastMarks [.LtE, .Lt] [b, c] = false := by rfl) : SB X (.Compare a [.LtE, .Lt] [b, c] pos) (bT (mChain gLe gLt ma mb mc)) := PT.imp (pt_chain op_le op_lt ha hb hc hm) fun σ H Q h => rd_chain (Q := fun x H' => ∃ k, x = .bl k ∧ Q k H') ok_le ok_lt (rd_bT h)
end
end Dh
namespace Dh
open PySem PySem.Spec L2
def mAnd (a b : Mx) : Mx := bnd a fun x => match x with
  | .d (.bool true) => b
  | .d (.bool false) => fun _ s => some (.d (.bool false), s)
  | _ => fun _ _ => none
def mOr (a b : Mx) : Mx := bnd a fun x => match x with
  | .d (.bool false) => b
  | .d (.bool true) => fun _ s => some (.d (.bool true), s)
  | _ => fun _ _ => none
def fNot : R → Option R
  | .d (.bool k) => some (.d (.bool (!k)))
  | _ => none
def tAnd2 (a b : Mt) : Mt := bnd a fun x => match x with
  | true => b
  | false => fun _ s => some (false, s)
def tOr2 (a b : Mt) : Mt := bnd a fun x => match x with
  | false => b
  | true => fun _ s => some (true, s)
def tNot2 (a : Mt) : Mt := bnd a fun x _ s => some (!x, s)
def mIf (c : Mt) (a b : Mx) : Mx := bnd c fun x => match x with
  | true => a
  | false => b
section
variable {X : Cx} {a b c : Expr} {rest : List Expr} {ma mb : Mx} {ta tb tc : Mt} {pos : Pos}
theorem rd_and {K : PySem.W.Frag} {σ : L2.St} {H : Hp} {Q : VK} (h : rdE K (mAnd ma mb) σ H Q) : tAndV (rdE K ma) (rdE K mb) σ H Q := by
  obtain ⟨C, fz, ρ, sto, z, sto', F, e, k⟩ := h
  obtain ⟨x, s1, ea, e1⟩ := bnd_some e
  clear e
  refine ⟨C, fz, ρ, sto, x, s1, F, ea, fun v fz1 H1 st1 l1 i1 => ?_⟩
  split at e1
  · cases i1
    refine ⟨true, rfl, ?_⟩
    rw [if_pos rfl]
    exact ⟨C, fz1, ρ, s1, z, sto', F.step st1 l1, e1, fun u fz2 H2 st2 l2 i2 => k u fz2 H2 (st1.trans st2) l2 (i2.early st1)⟩
  · cases i1
    cases e1
    refine ⟨false, rfl, ?_⟩
    rw [if_neg Bool.false_ne_true]
    exact k _ fz1 H1 st1 l1 (.bl _)
  · cases e1
theorem se_one {op : BoolOp} (ha : SE X a ma) : SE X (.BoolOp op [a] pos) ma := pe_one ha
theorem se_and (ha : SE X a ma) (hb : SE X (.BoolOp .And (b :: rest) pos) mb) : SE X (.BoolOp .And (a :: b :: rest) pos) (mAnd ma mb) := PE.imp (pe_and ha hb) fun _ _ _ h => rd_and h
theorem rd_not {K : PySem.W.Frag} {σ : L2.St} {H : Hp} {Q : VK} (h : rdE K (m1 fNot ma) σ H Q) : tNotV (rdE K ma) σ H Q := by
  refine rd_one (r := fun x H Q => ∃ c, x = .bl c ∧ Q (.bl (!c)) H) ?_ h
  intro sp fz H H0 sto v x z Q B ix e k
  unfold fNot at e
  split at e
  · cases e
    cases ix
    exact ⟨_, rfl, k _ fz H .refl B.spl (.inl (.bl _))⟩
  · cases e
theorem se_not (ha : SE X a ma) : SE X (.UnaryOp .Not a pos) (m1 fNot ma) := PE.imp (pe_not ha) fun _ _ _ h => rd_not h
theorem rt_and {K : PySem.W.Frag} {σ : L2.St} {H : Hp} {Q : Bool → Hp → Prop} (h : rdT K (tAnd2 ta tb) σ H Q) : tAnd (rdT K ta) (rdT K tb) σ H Q := by
  obtain ⟨C, fz, ρ, sto, z, sto', F, e, k⟩ := h
  obtain ⟨x, s1, ea, e1⟩ := bnd_some e
  clear e
  refine ⟨C, fz, ρ, sto, x, s1, F, ea, fun fz1 H1 st1 l1 => ?_⟩
  cases x with
  | true =>
    rw [if_pos rfl]
    exact ⟨C, fz1, ρ, s1, z, sto', F.step st1 l1, e1, fun fz2 H2 st2 l2 => k fz2 H2 (st1.trans st2) l2⟩
  | false =>
    rw [if_neg Bool.false_ne_true]
    cases e1
    exact k fz1 H1 st1 l1
theorem rt_or {K : PySem.W.Frag} {σ : L2.St} {H : Hp} {Q : Bool → Hp → Prop} (h : rdT K (tOr2 ta tb) σ H Q) : tOr (rdT K ta) (rdT K tb) σ H Q := by
  obtain ⟨C, fz, ρ, sto, z, sto', F, e, k⟩ := h
  obtain ⟨x, s1, ea, e1⟩ := bnd_some e
  clear e
  refine ⟨C, fz, ρ, sto, x, s1, F, ea, fun fz1 H1 st1 l1 => ?_⟩
  cases x with
  | false =>
    rw [if_neg Bool.false_ne_true]
    exact ⟨C, fz1, ρ, s1, z, sto', F.step st1 l1, e1, fun fz2 H2 st2 l2 => k fz2 H2 (st1.trans st2) l2⟩
  | true =>
    rw [if_pos rfl]
    cases e1
    exact k fz1 H1 st1 l1
theorem rt_not {K : PySem.W.Frag} {σ : L2.St} {H : Hp} {Q : Bool → Hp → Prop} (h : rdT K (tNot2 ta) σ H Q) : tNot (rdT K ta) σ H Q := by
  obtain ⟨C, fz, ρ, sto, z, sto', F, e, k⟩ := h
  obtain ⟨x, s1, ea, e1⟩ := bnd_some e
  cases e1
  exact ⟨C, fz, ρ, sto, x, _, F, ea, fun fz1 H1 st1 l1 => k fz1 H1 st1 l1⟩
theorem sw_and1 (ha : SB X a ta) : SW X (.BoolOp .And [a] pos) ta := pw_and1 ha
theorem sw_or1 (ha : SB X a ta) : SW X (.BoolOp .Or [a] pos) ta := pw_or1 ha
theorem sw_and (ha : SB X a ta) (hb : SW X (.BoolOp .And (b :: rest) pos) tb) : SW X (.BoolOp .And (a :: b :: rest) pos) (tAnd2 ta tb) := PW.imp (pw_and ha hb) fun _ _ _ h => rt_and h
theorem sw_or (ha : SB X a ta) (hb : SW X (.BoolOp .Or (b :: rest) pos) tb) : SW X (.BoolOp .Or (a :: b :: rest) pos) (tOr2 ta tb) := PW.imp (pw_or ha hb) fun _ _ _ h => rt_or h
theorem sb_w {e : Expr} {t : Mt} (h : SW X e t) : SB X e t := PW.pt h
theorem sb_not (ha : SB X a ta) : SB X (.UnaryOp .Not a pos) (tNot2 ta) := PT.imp (pt_not ha) fun _ _ _ h => rt_not h
theorem rd_if {K : PySem.W.Frag} {σ : L2.St} {H : Hp} {Q : VK} (h : rdE K (mIf ta ma mb) σ H Q) : tIf (rdT K ta) (rdE K ma) (rdE K mb) σ H Q := by
  obtain ⟨C, fz, ρ, sto, z, sto', F, e, k⟩ := h
  obtain ⟨x, s1, ea, e1⟩ := bnd_some e
  clear e
  refine ⟨C, fz, ρ, sto, x, s1, F, ea, fun fz1 H1 st1 l1 => ?_⟩
  cases x with
  | true =>
    rw [if_pos rfl]
    exact ⟨C, fz1, ρ, s1, z, sto', F.step st1 l1, e1, fun u fz2 H2 st2 l2 i2 => k u fz2 H2 (st1.trans st2) l2 (i2.early st1)⟩
  | false =>
    rw [if_neg Bool.false_ne_true]
    exact ⟨C, fz1, ρ, s1, z, sto', F.step st1 l1, e1, fun u fz2 H2 st2 l2 i2 => k u fz2 H2 (st1.trans st2) l2 (i2.early st1)⟩
theorem se_if (hc : SB X c ta) (ha : SE X a ma) (hb : SE X b mb) : SE X (.IfExp c a b pos) (mIf ta ma mb) := PE.imp (pe_ifExp hc ha hb) fun _ _ _ h => rd_if h
end
/-- a datum to be kept (a list that was just made is frozen) -/
def toD : R → Option PyData
  | .d x => some x
  | .f xs => some (.list xs)
  | _ => none
def toDs : List R → Option (List PyData)
  | [] => some []
  | r :: rs => match toD r, toDs rs with
    | some x, some xs => some (x :: xs)
    | _, _ => none
section
variable {K : PySem.W.Frag} {sp : Option Addr} {fz fz1 : Fz} {H H1 : Hp} {sto : Sto}
/-- keeping one -/
theorem ImR.keep {v : V} {r : R} {x : PyData} (i : ImR K sp H fz1 H1 v r) (e : toD r = some x) (s : Stp sp fz H fz1 H1) (B : Bs sp fz1 H1 sto) :
    ∃ fz2 : Fz, Stp sp fz H fz2 H1 ∧ Bs sp fz2 H1 sto ∧ (∀ a, fz1 a → fz2 a) ∧ Im K fz2 H1 v x := by
  unfold toD at e
  split at e
  · cases e
    exact ⟨fz1, s, B, fun _ h => h, i⟩
  · cases e
    obtain ⟨a, vs, rfl, h1, h2, h3, h4, h5⟩ := i
    have s2 := s.freeze h5 h4 h1
    refine ⟨_, s2, ⟨B.spl, fun c ec q => ?_, fun b q z => ?_⟩, fun b q => .inl q, .lst (.inl ⟨h1, .inr rfl⟩) (h2.fzm fun b q => .inl q)⟩
    · rcases q with q | q
      · exact B.nsp c ec q
      · exact h4 (by subst q; exact ec.symm)
    · rcases q with q | q
      · exact B.trk b q z
      · subst q; rw [h1] at z; cases z
  · cases e
theorem ImRs.keep : ∀ {vs : List V} {rs : List R} {xs : List PyData} {fz1 : Fz}, ImRs K sp H fz1 H1 vs rs → toDs rs = some xs → Stp sp fz H fz1 H1 → Bs sp fz1 H1 sto →
    ∀ fzA : Fz, Stp sp fz H fzA H1 → Bs sp fzA H1 sto → (∀ a, fz1 a → fzA a) → ∃ fz2 : Fz, Stp sp fz H fz2 H1 ∧ Bs sp fz2 H1 sto ∧ (∀ a, fzA a → fz2 a) ∧ ImA K fz2 H1 vs xs
  | _, _, _, _, .nil, e, s, B, fzA, sA, BA, g => by
    cases e
    exact ⟨fzA, sA, BA, fun _ h => h, .nil⟩
  | _, _, _, fz1, .cons (a := v) (b := r) h t, e, s, B, fzA, sA, BA, g => by
    unfold toDs at e
    split at e
    · rename_i x xs e1 e2
      cases e
      -- the head, frozen beside what is frozen already
      have : ∃ fzB : Fz, Stp sp fz H fzB H1 ∧ Bs sp fzB H1 sto ∧ (∀ a, fzA a → fzB a) ∧ Im K fzB H1 v x := by
        unfold toD at e1
        split at e1
        · cases e1
          exact ⟨fzA, sA, BA, fun _ h => h, Im.fzm g h⟩
        · cases e1
          obtain ⟨a, vs, rfl, h1, h2, h3, h4, h5⟩ := h
          refine ⟨_, sA.freeze h5 h4 h1, ⟨BA.spl, fun c ec q => ?_, fun b q z => ?_⟩, fun b q => .inl q, .lst (.inl ⟨h1, .inr rfl⟩) (h2.fzm fun b q => .inl (g b q))⟩
          · rcases q with q | q
            · exact BA.nsp c ec q
            · exact h4 (by subst q; exact ec.symm)
          · rcases q with q | q
            · exact BA.trk b q z
            · subst q; rw [h1] at z; cases z
        · cases e1
      obtain ⟨fzB, sB, BB, gB, iB⟩ := this
      obtain ⟨fz2, s2, B2, g2, i2⟩ := ImRs.keep t e2 s B fzB sB BB fun a q => gB a (g a q)
      exact ⟨fz2, s2, B2, fun a q => g2 a (gB a q), .cons (iB.fzm g2) i2⟩
    · cases e
end
def fTup (rs : List R) : Option R := match toDs rs with
  | some xs => if xs.length ≤ sizeLine then some (.d (.tuple xs)) else none
  | none => none
def fLst (rs : List R) : Option R := match toDs rs with
  | some xs => if xs.length ≤ sizeLine then some (.f xs) else none
  | none => none
section
variable {X : Cx} {es : List Expr} {m : Ma} {pos : Pos}
theorem se_tup {x1} (h : SA X es m) : SE X (.Tuple es x1 pos) (mA fTup m) := PE.imp (pe_tup (x1 := x1) h) fun σ H Q q => by
  refine rd_args (r := fun xs H1 Q => xs.length ≤ sizeLine ∧ ∀ p, H1 p = none → Q (.ref p) (upd H1 p (.tup xs))) ?_ q
  intro sp fz fzS H H0 sto vs xs z Q s B i e k
  unfold fTup at e
  split at e
  · rename_i ds hd
    split at e
    · rename_i hz
      cases e
      obtain ⟨fz2, s2, B2, g2, a⟩ := ImRs.keep i hd s B fz s B fun _ h => h
      refine ⟨by rw [a.length]; exact hz, fun p hp => ?_⟩
      obtain ⟨s3, l3, i3⟩ := new_tup B2 a hp
      exact k _ fz2 _ (s2.trans s3) l3 i3
    · cases e
  · cases e
theorem se_lst (h : SA X es m) : SE X (.List es pos) (mA fLst m) := PE.imp (pe_lst h) fun σ H Q q => by
  refine rd_args (r := fun xs H1 Q => xs.length ≤ sizeLine ∧ ∀ p, H1 p = none → Q (.ref p) (upd H1 p (.lst xs))) ?_ q
  intro sp fz fzS H H0 sto vs xs z Q s B i e k
  unfold fLst at e
  split at e
  · rename_i ds hd
    split at e
    · rename_i hz
      cases e
      obtain ⟨fz2, s2, B2, g2, a⟩ := ImRs.keep i hd s B fz s B fun _ h => h
      refine ⟨by rw [a.length]; exact hz, fun p hp => ?_⟩
      obtain ⟨s3, l3, i3⟩ := new_lst B2 a hp
      exact k _ fz2 _ (s2.trans s3) l3 (i3.early s2)
    · cases e
  · cases e
end
def fIx (sto : Sto) : R → R → Option R
  | .s, .d (.int i) => (atI sto i).map fun j => .d (.int j)
  | x, .d (.int i) => match rdQ x with
    | some xs => (atI xs i).map .d
    | none => none
  | _, _ => none
/-- an item: of the spring, too -/
def mIx (a b : Mx) : Mx := bnd a fun x => bnd b fun y _ s => match fIx s x y with
  | some z => some (z, s)
  | none => none
theorem atI_some {α : Type} {xs : List α} {i : Int} {x : α} (h : atI xs i = some x) : ∃ j, ixN xs.length i = some j ∧ xs[j]? = some x := by
  unfold atI at h
  cases q : ixN xs.length i with
  | none => rw [q] at h; cases h
  | some j => rw [q] at h; exact ⟨j, rfl, h⟩
theorem atI_im {K : PySem.W.Frag} {fz : Fz} {H : Hp} {vs : List V} {xs : List PyData} {i : Int} {x : PyData} (a : ImA K fz H vs xs) (h : atI xs i = some x) : ∃ w, atI vs i = some w ∧ Im K fz H w x := by
  obtain ⟨j, h1, h2⟩ := atI_some h
  obtain ⟨w, h3, h4⟩ := a.at j x h2
  refine ⟨w, ?_, h4⟩
  unfold atI
  rw [a.length, h1]
  exact h3
theorem atI_map {i : Int} {sto : Sto} {j : Int} (h : atI sto i = some j) : atI (sto.map V.int) i = some (.int j) := by
  obtain ⟨k, h1, h2⟩ := atI_some h
  unfold atI
  rw [List.length_map, h1]
  show (sto.map V.int)[k]? = _
  rw [List.getElem?_map, h2]
  rfl
def rIxQ (K : PySem.W.Frag) : R2 := fun x y H Q => rIxL K x y H Q ∨ rIxT K x y H Q
section
variable {X : Cx} {a b : Expr} {ma mb : Mx} {pos : Pos}
theorem fIx_ok {K : PySem.W.Frag} {sp : Option Addr} {fz : Fz} {H H0 : Hp} {sto : Sto} {v w : V} {x y z : R} {Q : VK} (B : Bs sp fz H sto) (ix : ImR K sp H0 fz H v x) (iy : ImR K sp H0 fz H w y) (e : fIx sto x y = some z) (k : ∀ u, ImR K sp H fz H u z → Q u H) : rIxQ K v w H Q := by
  unfold fIx at e
  split at e
  · rename_i i
    cases iy
    cases q : atI sto i with
    | none => rw [q] at e; cases e
    | some j =>
      rw [q] at e; cases e
      obtain ⟨a, ea, rfl⟩ := (show IsS sp v from ix)
      exact .inl ⟨a, _, i, _, rfl, rfl, .inl (.inl (B.spl a ea)), atI_map q, k _ (.int j)⟩
  · rename_i i _
    cases iy
    split at e
    · rename_i xs hx
      cases q : atI xs i with
      | none => rw [q] at e; cases e
      | some d =>
        rw [q] at e; cases e
        obtain ⟨a, vs, rfl, h, im⟩ := ix.seq hx
        obtain ⟨u, hu, iu⟩ := atI_im im q
        rcases h with h | h
        · exact .inl ⟨a, vs, i, u, rfl, rfl, h, hu, k _ iu⟩
        · exact .inr ⟨a, vs, i, u, rfl, rfl, h, hu, k _ iu⟩
    · cases e
  · cases e
theorem se_ix (ha : SE X a ma) (hb : SE X b mb) (hs : PlainIx b := by exact fun _ _ => rfl) : SE X (.Subscript a b pos) (mIx ma mb) := PE.imp (pe_ix (ix_list.or ix_tup) ha hb hs) fun σ H Q h => by
  obtain ⟨C, fz, ρ, sto, z, sto', F, e, k⟩ := h
  obtain ⟨x, s1, ea, e1⟩ := bnd_some e
  obtain ⟨y, s2, eb, e2⟩ := bnd_some e1
  clear e e1
  split at e2
  · rename_i z' ez
    cases e2
    refine ⟨C, fz, ρ, sto, x, s1, F, ea, fun v fz1 H1 st1 l1 i1 => ?_⟩
    refine ⟨C, fz1, ρ, s1, y, sto', F.step st1 l1, eb, fun w fz2 H2 st2 l2 i2 => ?_⟩
    have B1 := F.bs.step st1 l1
    exact fIx_ok (B1.step st2 l2) (i1.stp st2 B1) (i2.early st1) ez fun u iu => k u fz2 H2 (st1.trans st2) l2 (iu.early (st1.trans st2))
  · cases e2
end
end Dh
namespace Dh
open PySem PySem.Spec L2
inductive Out where
  | nx | bk | ct | rt (r : R)
abbrev Ms := Ev → Sto → Option (Out × Ev × Sto)
/-- what is no list and no dict -/
def Stay (o : HO) : Prop := (∀ xs, o ≠ .lst xs) ∧ ∀ kvs, o ≠ .dK kvs
/-- through a statement: what is frozen, and all that is no list and no dict, stands -/
structure Sts (sp : Option Addr) (fz : Fz) (H : Hp) (fz' : Fz) (H' : Hp) : Prop where
  mono : ∀ a, fz a → fz' a
  kept : ∀ a o, H a = some o → some a ≠ sp → (fz a ∨ Stay o) → H' a = some o
section
variable {K : PySem.W.Frag} {sp : Option Addr} {fz fz1 fz2 : Fz} {H H1 H2 : Hp} {sto : Sto}
theorem Sts.refl : Sts sp fz H fz H := ⟨fun _ h => h, fun _ _ h _ _ => h⟩
theorem Sts.trans (s : Sts sp fz H fz1 H1) (t : Sts sp fz1 H1 fz2 H2) : Sts sp fz H fz2 H2 :=
  ⟨fun a h => t.mono a (s.mono a h), fun a o h n c => t.kept a o (s.kept a o h n c) n (c.imp (s.mono a) id)⟩
theorem Stp.sts (s : Stp sp fz H fz1 H1) : Sts sp fz H fz1 H1 := ⟨s.mono, fun a o h n _ => s.ext a o h n⟩
theorem SqT.sts {a : Addr} {xs : List V} (s : Sts sp fz H fz1 H1) (B : Bs sp fz H sto) (h : SqT K H a xs) : SqT K H1 a xs := by
  rcases h with (h | ⟨o, h⟩) | h
  · exact .inl (.inl (s.kept _ _ h (ne_spring B.spl h) (.inr ⟨(fun _ z => nomatch z), (fun _ z => nomatch z)⟩)))
  · exact .inl (.inr ⟨o, s.kept _ _ h (B.spl.ne h (by intro z; cases z)) (.inr ⟨(fun _ z => nomatch z), (fun _ z => nomatch z)⟩)⟩)
  · exact .inr h
theorem FzT.sts {a : Addr} {xs : List V} (s : Sts sp fz H fz1 H1) (B : Bs sp fz H sto) (h : FzT K H a xs) : FzT K H1 a xs := by
  rcases h with (h | ⟨o, h⟩) | h
  · exact .inl (.inl (s.kept _ _ h (ne_spring B.spl h) (.inr ⟨(fun _ z => nomatch z), (fun _ z => nomatch z)⟩)))
  · exact .inl (.inr ⟨o, s.kept _ _ h (B.spl.ne h (by intro z; cases z)) (.inr ⟨(fun _ z => nomatch z), (fun _ z => nomatch z)⟩)⟩)
  · exact .inr h
theorem FzL.sts {a : Addr} {xs : List V} (s : Sts sp fz H fz1 H1) (B : Bs sp fz H sto) (h : FzL K fz H a xs) : FzL K fz1 H1 a xs := by
  rcases h with ⟨h, f⟩ | ⟨o, h⟩ | h
  · exact .inl ⟨s.kept _ _ h (by intro e; exact B.nsp _ e.symm f) (.inl f), s.mono _ f⟩
  · exact .inr (.inl ⟨o, s.kept _ _ h (B.spl.ne h (by intro z; cases z)) (.inr ⟨(fun _ z => nomatch z), (fun _ z => nomatch z)⟩)⟩)
  · exact .inr (.inr h)
mutual
theorem Im.sts (s : Sts sp fz H fz1 H1) (B : Bs sp fz H sto) : ∀ {v : V} {d : PyData}, Im K fz H v d → Im K fz1 H1 v d
  | _, _, .non => .non
  | _, _, .bl b => .bl b
  | _, _, .int i => .int i
  | _, _, .str x => .str x
  | _, _, .lst h a => .lst (h.sts s B) (ImA.sts s B a)
  | _, _, .tup h a => .tup (FzT.sts s B h) (ImA.sts s B a)
  | _, _, .dct h f a b => .dct (s.kept _ _ h (by intro e; exact B.nsp _ e.symm f) (.inl f)) (s.mono _ f) (ImA.sts s B a) (ImA.sts s B b)
theorem ImA.sts (s : Sts sp fz H fz1 H1) (B : Bs sp fz H sto) : ∀ {v : List V} {d : List PyData}, ImA K fz H v d → ImA K fz1 H1 v d
  | _, _, .nil => .nil
  | _, _, .cons h t => .cons (Im.sts s B h) (ImA.sts s B t)
end
end
def Fin (K : PySem.W.Frag) (C : Cn) (D : Ends) (out : Out) (fz' : Fz) (σ' : L2.St) (H' : Hp) : Prop := match out with
  | .nx => D.nx σ' H'
  | .bk => D.bk σ' H'
  | .ct => D.ct σ' H'
  | .rt r => ∀ v, ImR K C.sp C.H0 fz' H' v r → D.rt v H'
def rdS (K : PySem.W.Frag) (m : Ms) : TS := fun D σ H => ∃ (C : Cn) (fz : Fz) (ρ : Ev) (sto : Sto) (out : Out) (ρ' : Ev) (sto' : Sto), Fm K C fz ρ sto σ H ∧ m ρ sto = some (out, ρ', sto') ∧
  ∀ fz' σ' H', Fm K C fz' ρ' sto' σ' H' → Sts C.sp fz H fz' H' → Fin K C D out fz' σ' H'
def SS (X : Cx) (st : Stmt) (m : Ms) : Prop := PS X st (rdS X.K m)
def SL (X : Cx) (st : List Stmt) (m : Ms) : Prop := PSs X st (rdS X.K m)
def mNil : Ms := fun ρ s => some (.nx, ρ, s)
def mSeq (a b : Ms) : Ms := fun ρ s => match a ρ s with
  | some (.nx, ρ1, s1) => b ρ1 s1
  | some r => some r
  | none => none
def mIfS (c : Mt) (a b : Ms) : Ms := fun ρ s => match c ρ s with
  | some (true, s1) => a ρ s1
  | some (false, s1) => b ρ s1
  | none => none
def mRet (a : Mx) : Ms := fun ρ s => match a ρ s with
  | some (.d x, s1) => some (.rt (.d x), ρ, s1)
  | some (.f xs, s1) => some (.rt (.f xs), ρ, s1)
  | _ => none
/-- return of a name -/
def mRetV (i : Nat) : Ms := fun ρ s => match ρ[i]? with
  | some (some (.d x)) => some (.rt (.d x), ρ, s)
  | some (some (.o xs)) => some (.rt (.f xs), ρ, s)
  | _ => none
def mNever : Ms := fun _ _ => none
def toCl : R → Option Cl
  | .d x => some (.d x)
  | .f xs => some (.o xs)
  | .s => some .s
  | .m acc => some (.m acc)
  | _ => none
def mSet (i : Nat) (a : Mx) : Ms := fun ρ s => match a ρ s with
  | some (r, s1) => match toCl r with
    | some c => some (.nx, ρ.set i (some c), s1)
    | none => none
  | none => none
section
variable {K : PySem.W.Frag} {C : Cn} {fz fz1 : Fz} {ρ : Ev} {sto sto' : Sto} {σ : L2.St} {H H1 : Hp}
/-- what is owned was not there at the entry -/
theorem Fm.owned (F : Fm K C fz ρ sto σ H) {i : Nat} {xs : List PyData} (h : ρ[i]? = some (some (.o xs))) : ∃ a vs, σ[i]? = some (some (.ref a)) ∧ H a = some (.lst vs) ∧ ImA K fz H vs xs ∧ ¬ fz a ∧ some a ≠ C.sp ∧ C.H0 a = none := F.vars i _ h
/-- a slot gets a value -/
theorem Fm.put (F : Fm K C fz ρ sto σ H) (i : Nat) {v : V} {c : Cl} (hi : i < σ.length) (ok : CellOk K C fz H (σ.set i (some v)) i c)
    (ap : ∀ xs a, c = .o xs → v = .ref a → ∀ j ys, j ≠ i → ρ[j]? = some (some (.o ys)) → σ[j]? ≠ some (some (.ref a))) : Fm K C fz (ρ.set i (some c)) sto (σ.set i (some v)) H where
  len := by rw [List.length_set, List.length_set, F.len]
  st := F.st
  bs := F.bs
  vars := fun j c' h => by
    by_cases e : j = i
    · subst e
      rw [List.getElem?_set_self (by rw [F.len]; exact hi)] at h
      cases h
      exact ok
    · rw [List.getElem?_set_ne (Ne.symm e)] at h
      have q := F.vars j c' h
      have ge : (σ.set i (some v))[j]? = σ[j]? := List.getElem?_set_ne (Ne.symm e)
      cases c' with
      | d x => obtain ⟨u, e1, e2⟩ := q; exact ⟨u, ge.trans e1, e2⟩
      | o xs => obtain ⟨a, vs, e1, e2⟩ := q; exact ⟨a, vs, ge.trans e1, e2⟩
      | s => obtain ⟨a, ea, q⟩ := q; exact ⟨a, ea, ge.trans q⟩
      | m acc => obtain ⟨a, vs, e1, e2⟩ := q; exact ⟨a, vs, ge.trans e1, e2⟩
  sep := fun j k xs ys a hjk h1 h2 h3 h4 => by
    by_cases e : j = i
    · subst e
      rw [List.getElem?_set_self (by rw [F.len]; exact hi)] at h1
      rw [List.getElem?_set_ne hjk] at h2 h4
      rw [List.getElem?_set_self hi] at h3
      cases h1; cases h3
      exact ap xs a rfl rfl k ys (Ne.symm hjk) h2 h4
    · by_cases e2 : k = i
      · subst e2
        rw [List.getElem?_set_self (by rw [F.len]; exact hi)] at h2
        rw [List.getElem?_set_ne (Ne.symm hjk)] at h1 h3
        rw [List.getElem?_set_self hi] at h4
        cases h2; cases h4
        exact ap ys a rfl rfl j xs hjk h1 h3
      · rw [List.getElem?_set_ne (Ne.symm e)] at h1 h3
        rw [List.getElem?_set_ne (Ne.symm e2)] at h2 h4
        exact F.sep j k xs ys a hjk h1 h2 h3 h4
/-- a slot gets what an expression gave (seen from a heap H0 where F stood) -/
theorem Fm.give (F : Fm K C fz ρ sto σ H) (s : Stp C.sp fz H fz1 H1) (l : SpL C.sp H1 sto') {v : V} {r : R} {c : Cl} (i : ImR K C.sp H fz1 H1 v r) (e : toCl r = some c) {n : Nat} (hn : n < σ.length) : Fm K C fz1 (ρ.set n (some c)) sto' (σ.set n (some v)) H1 := by
  have F1 := F.step s l
  refine F1.put n hn ?_ ?_
  · have g : (σ.set n (some v))[n]? = some (some v) := List.getElem?_set_self hn
    cases r with
    | d x => cases e; exact ⟨v, g, i⟩
    | f xs =>
      cases e
      obtain ⟨a, vs, rfl, h1, h2, h3, h4, h5⟩ := i
      exact ⟨a, vs, g, h1, h2, h3, h4, F.st.back h4 h5⟩
    | b xs => cases e
    | s => cases e; obtain ⟨a, ea, rfl⟩ := (show IsS C.sp v from i); exact ⟨a, ea, g⟩
    | m acc =>
      cases e
      obtain ⟨a, vs, rfl, h1, h2, h3, h4, h5⟩ := i
      exact ⟨a, vs, g, h1, h2, h3, h4, F.st.back h4 h5⟩
    | n acc => cases e
  · intro xs a ec ev j ys hj h1 h2
    subst ec
    cases r with
    | d x => cases e
    | f zs =>
      cases e
      obtain ⟨b, vs, eb, h3, h4, h5, h6, h7⟩ := i
      rw [ev] at eb; cases eb
      obtain ⟨b, ws, q1, q2, _⟩ := F.owned h1
      rw [h2] at q1; cases q1
      rw [h7] at q2; cases q2
    | b zs => cases e
    | s => cases e
    | m _ => cases e
    | n _ => cases e
end
section
variable {X : Cx} {st : Stmt} {rest : List Stmt} {e : Expr} {me : Mx} {ma mb : Ms} {tc : Mt} {pos : Pos}
theorem sl_nil : SL X [] mNil := PSs.imp pss_nil fun D σ H h => by
  obtain ⟨C, fz, ρ, sto, out, ρ', sto', F, e, k⟩ := h
  cases e
  exact k fz σ H F .refl
theorem rs_seq {K : PySem.W.Frag} {D : Ends} {σ : L2.St} {H : Hp} (h : rdS K (mSeq ma mb) D σ H) : tSeq (rdS K ma) (rdS K mb) D σ H := by
  obtain ⟨C, fz, ρ, sto, out, ρ', sto', F, e, k⟩ := h
  unfold mSeq at e
  split at e
  · rename_i ρ1 s1 e1
    refine ⟨C, fz, ρ, sto, .nx, ρ1, s1, F, e1, fun fz1 σ1 H1 F1 q1 => ?_⟩
    exact ⟨C, fz1, ρ1, s1, out, ρ', sto', F1, e, fun fz2 σ2 H2 F2 q2 => k fz2 σ2 H2 F2 (q1.trans q2)⟩
  · rename_i r hr e1
    cases e
    refine ⟨C, fz, ρ, sto, out, ρ', sto', F, e1, fun fz1 σ1 H1 F1 q1 => ?_⟩
    have q := k fz1 σ1 H1 F1 q1
    cases out with
    | nx => exact absurd rfl (hr ρ' sto')
    | bk => exact q
    | ct => exact q
    | rt r => exact q
  · cases e
theorem sl_cons (h1 : SS X st ma) (h2 : SL X rest mb) : SL X (st :: rest) (mSeq ma mb) := PSs.imp (pss_cons h1 h2) fun _ _ _ h => rs_seq h
theorem sl_one (h1 : SS X st ma) : SL X [st] ma := pss_one h1
theorem ss_never : SS X st mNever := PS.imp ps_never fun D σ H h => by
  obtain ⟨C, fz, ρ, sto, out, ρ', sto', F, e, k⟩ := h
  cases e
theorem ss_if {c : Expr} {a b : List Stmt} (hc : SB X c tc) (ha : SL X a ma) (hb : SL X b mb) : SS X (.If c a b pos) (mIfS tc ma mb) := PS.imp (ps_if hc ha hb) fun D σ H h => by
  obtain ⟨C, fz, ρ, sto, out, ρ', sto', F, e, k⟩ := h
  unfold mIfS at e
  split at e
  · rename_i s1 e1
    refine ⟨C, fz, ρ, sto, true, s1, F, e1, fun fz1 H1 st1 l1 => ?_⟩
    refine iteT ?_
    exact ⟨C, fz1, ρ, s1, out, ρ', sto', F.step st1 l1, e, fun fz2 σ2 H2 F2 q2 => k fz2 σ2 H2 F2 (st1.sts.trans q2)⟩
  · rename_i s1 e1
    refine ⟨C, fz, ρ, sto, false, s1, F, e1, fun fz1 H1 st1 l1 => ?_⟩
    refine iteF ?_
    exact ⟨C, fz1, ρ, s1, out, ρ', sto', F.step st1 l1, e, fun fz2 σ2 H2 F2 q2 => k fz2 σ2 H2 F2 (st1.sts.trans q2)⟩
  · cases e
theorem ss_ret (he : SE X e me) : SS X (.Return (some e) pos) (mRet me) := PS.imp (ps_ret he) fun D σ H h => by
  obtain ⟨C, fz, ρ, sto, out, ρ', sto', F, e, k⟩ := h
  unfold mRet at e
  split at e
  · rename_i x s1 e1
    cases e
    exact ⟨C, fz, ρ, sto, _, _, F, e1, fun v fz1 H1 st1 l1 i1 => k fz1 σ H1 (F.step st1 l1) st1.sts v (i1.early F.st)⟩
  · rename_i x s1 e1
    cases e
    exact ⟨C, fz, ρ, sto, _, _, F, e1, fun v fz1 H1 st1 l1 i1 => k fz1 σ H1 (F.step st1 l1) st1.sts v (i1.early F.st)⟩
  · cases e
theorem ss_retV {i : Nat} {x : Str} {p : Pos} (hN : X.N[i]? = some x := by rfl) (hv : Vis X.env.scope x := by first | exact Or.inl rfl | exact Or.inr (Or.inl rfl) | exact Or.inr (Or.inr rfl)) (hd : (x == ("__debug__" : Str)) = false := by decide)
    (hcd : (x == ("__classdict__" : Str)) = false := by decide) : SS X (.Return (some (.Name x p)) pos) (mRetV i) := PS.imp (ps_ret (pe_var hN hv hd hcd)) fun D σ H h => by
  obtain ⟨C, fz, ρ, sto, out, ρ', sto', F, e, k⟩ := h
  unfold mRetV at e
  split at e
  · rename_i x h1
    cases e
    obtain ⟨v, e1, e2⟩ := F.vars _ _ h1
    exact ⟨v, e1, k fz σ H F .refl v e2⟩
  · rename_i xs h1
    cases e
    obtain ⟨a, vs, e1, h2, h3, h4, h5, h6⟩ := F.owned h1
    exact ⟨_, e1, k fz σ H F .refl _ ⟨a, vs, rfl, h2, h3, h4, h5, h6⟩⟩
  · cases e
theorem PS.impI {X : Cx} {e : Stmt} {t t' : TS} (h : PS X e t) (q : ∀ D σ H, σ.length = X.N.length → t' D σ H → t D σ H) : PS X e t' := ⟨fun pins s σ H D I w => h.run pins s σ H D I (q _ _ _ I.len w)⟩
theorem rs_set {K : PySem.W.Frag} {i : Nat} {D : Ends} {σ : L2.St} {H : Hp} (hs : i < σ.length) (h : rdS K (mSet i me) D σ H) : tAsg (rdE K me) (gName i) D σ H := by
  obtain ⟨C, fz, ρ, sto, out, ρ', sto', F, e, k⟩ := h
  unfold mSet at e
  split at e
  · rename_i r s1 e1
    split at e
    · rename_i c ec
      cases e
      exact ⟨C, fz, ρ, sto, r, _, F, e1, fun v fz1 H1 st1 l1 i1 => k fz1 _ H1 (F.give st1 l1 i1 ec hs) st1.sts⟩
    · cases e
  · cases e
theorem lt_of_slot {i : Nat} {N : List Str} {x : Str} {σ : L2.St} (hi : N[i]? = some x) (hl : σ.length = N.length) : i < σ.length := by
  rw [hl]; exact (List.getElem?_eq_some_iff.mp hi).1
theorem ss_set {i : Nat} {x : Str} {p : Pos} (hN : X.N.Nodup) (hi : X.N[i]? = some x) (hx : Loc X.env.scope x) (he : SE X e me)
    (hs : swapsWith e (some (.Name x p)) pos.line X.env = pure false := by rfl) (hw : swappedStores [.Name x p] e X.env = pure none := by rfl)
    (hf : X.fn x = true ∨ X.env.scope.names.lookup x = some .local := by first | exact .inl rfl | exact .inr rfl) : SS X (.Assign [.Name x p] e pos) (mSet i me) :=
  PS.impI (ps_asg he (pg_name hN hi hx hf) hs hw) fun D σ H hl h => rs_set (lt_of_slot hi hl) h
def frz1 (ρ : Ev) (i : Nat) : Ev := match ρ[i]? with
  | some (some (.o xs)) => ρ.set i (some (.d (.list xs)))
  | _ => ρ
def frzs (ρ : Ev) : List Nat → Ev
  | [] => ρ
  | i :: r => frzs (frz1 ρ i) r
def mFrz (is : List Nat) (m : Ms) : Ms := fun ρ s => m (frzs ρ is) s
theorem Fm.frz1 {K : PySem.W.Frag} {C : Cn} {fz : Fz} {ρ : Ev} {sto : Sto} {σ : L2.St} {H : Hp} (F : Fm K C fz ρ sto σ H) (i : Nat) : ∃ fz2, Fm K C fz2 (Dh.frz1 ρ i) sto σ H ∧ Sts C.sp fz H fz2 H := by
  unfold Dh.frz1
  split
  · rename_i xs hx
    obtain ⟨a, vs, e1, h2, h3, h4, h5, h6⟩ := F.owned hx
    have hi : i < σ.length := (List.getElem?_eq_some_iff.mp e1).1
    refine ⟨fun b => fz b ∨ b = a, ⟨by rw [List.length_set, F.len], F.st.freeze h6 h5 h2, ⟨F.bs.spl, fun c ec q => ?_, fun b q z => ?_⟩, fun j c h => ?_, fun j k xs ys b hjk q1 q2 => ?_⟩, ⟨fun b q => .inl q, fun _ _ h _ _ => h⟩⟩
    · rcases q with q | q
      · exact F.bs.nsp c ec q
      · exact h5 (by subst q; exact ec.symm)
    · rcases q with q | q
      · exact F.bs.trk b q z
      · subst q; rw [h2] at z; cases z
    · by_cases ej : j = i
      · subst ej
        rw [List.getElem?_set_self (by rw [F.len]; exact hi)] at h
        cases h
        exact ⟨_, e1, .lst (.inl ⟨h2, .inr rfl⟩) (h3.fzm fun b q => .inl q)⟩
      · rw [List.getElem?_set_ne (Ne.symm ej)] at h
        have q := F.vars j c h
        cases c with
        | d x => obtain ⟨u, e1, e2⟩ := q; exact ⟨u, e1, e2.fzm fun b q => .inl q⟩
        | o ys =>
          obtain ⟨b, ws, g1, g2, g3, g4, g5, g6⟩ := q
          refine ⟨b, ws, g1, g2, g3.fzm fun b q => .inl q, fun z => ?_, g5, g6⟩
          rcases z with z | z
          · exact g4 z
          · subst z; exact F.sep j i ys xs _ ej h hx g1 e1
        | s => exact q
        | m acc =>
          obtain ⟨b, ws, g1, g2, g3, g4, g5, g6⟩ := q
          refine ⟨b, ws, g1, g2, ⟨g3.1, g3.2.fzm fun b q => .inl q⟩, fun z => ?_, g5, g6⟩
          rcases z with z | z
          · exact g4 z
          · subst z; rw [h2] at g2; cases g2
    · have ej : j ≠ i := fun z => by
        subst z
        rw [List.getElem?_set_self (by rw [F.len]; exact hi)] at q1
        cases q1
      have ek : k ≠ i := fun z => by
        subst z
        rw [List.getElem?_set_self (by rw [F.len]; exact hi)] at q2
        cases q2
      rw [List.getElem?_set_ne (Ne.symm ej)] at q1
      rw [List.getElem?_set_ne (Ne.symm ek)] at q2
      exact F.sep j k xs ys b hjk q1 q2
  · exact ⟨fz, F, .refl⟩
theorem Fm.frzs {K : PySem.W.Frag} {C : Cn} {sto : Sto} {σ : L2.St} {H : Hp} : ∀ (is : List Nat) {fz : Fz} {ρ : Ev}, Fm K C fz ρ sto σ H → ∃ fz2, Fm K C fz2 (Dh.frzs ρ is) sto σ H ∧ Sts C.sp fz H fz2 H
  | [], fz, ρ, F => ⟨fz, F, .refl⟩
  | i :: r, fz, ρ, F => by
    obtain ⟨fz1, F1, s1⟩ := F.frz1 i
    obtain ⟨fz2, F2, s2⟩ := Fm.frzs r F1
    exact ⟨fz2, F2, s1.trans s2⟩
theorem ss_frz (is : List Nat) (h : SS X st ma) : SS X st (mFrz is ma) := PS.imp h fun D σ H h => by
  obtain ⟨C, fz, ρ, sto, out, ρ', sto', F, e, k⟩ := h
  obtain ⟨fz2, F2, s2⟩ := F.frzs is
  exact ⟨C, fz2, _, sto, out, ρ', sto', F2, e, fun fz3 σ3 H3 F3 s3 => k fz3 σ3 H3 F3 (s2.trans s3)⟩
end
end Dh
namespace Dh
open PySem PySem.Spec L2
section
variable {K : PySem.W.Frag} {C : Cn} {fz fz1 : Fz} {ρ : Ev} {sto sto' : Sto} {σ : L2.St} {H H1 : Hp}
/-- an own list is written -/
theorem Fm.write (F : Fm K C fz ρ sto σ H) {i : Nat} {xs ys : List PyData} {a : Addr} {ws : List V} (h : ρ[i]? = some (some (.o xs))) (ha : σ[i]? = some (some (.ref a))) (im : ImA K fz H ws ys) :
    Fm K C fz (ρ.set i (some (.o ys))) sto σ (upd H a (.lst ws)) ∧ Sts C.sp fz H fz (upd H a (.lst ws)) := by
  obtain ⟨b, vs, e1, h2, h3, h4, h5, h6⟩ := F.owned h
  rw [ha] at e1; cases e1
  have hi : i < ρ.length := (List.getElem?_eq_some_iff.mp h).1
  have S : Sts C.sp fz H fz (upd H a (.lst ws)) := ⟨fun _ q => q, fun b o q n c => by
    have : b ≠ a := fun z => by
      subst z
      rcases c with c | c
      · exact h4 c
      · rw [h2] at q; cases q; exact c.1 _ rfl
    rw [upd_ne this]; exact q⟩
  refine ⟨⟨by rw [List.length_set, F.len], ⟨F.st.mono, fun b o q n => ?_, F.st.new, fun t b q z => ?_⟩, ⟨?_, F.bs.nsp, fun b q z => ?_⟩, fun j c q => ?_, fun j k us zs b hjk q1 q2 => ?_⟩, S⟩
  · have : b ≠ a := fun z => by subst z; rw [h6] at q; cases q
    rw [upd_ne this]; exact F.st.ext b o q n
  · by_cases e : b = a
    · subst e; rw [upd_same] at z; cases z
    · rw [upd_ne e] at z; exact F.st.trk t b q z
  · exact F.bs.spl.upd h5
  · by_cases e : b = a
    · subst e; rw [upd_same] at z; cases z
    · rw [upd_ne e] at z; exact F.bs.trk b q z
  · by_cases ej : j = i
    · subst ej
      rw [List.getElem?_set_self hi] at q
      cases q
      exact ⟨a, ws, ha, upd_same, im.sts S F.bs, h4, h5, h6⟩
    · rw [List.getElem?_set_ne (Ne.symm ej)] at q
      have g := F.vars j c q
      cases c with
      | d x => obtain ⟨u, g1, g2⟩ := g; exact ⟨u, g1, g2.sts S F.bs⟩
      | o us =>
        obtain ⟨b, ts, g1, g2, g3, g4, g5, g6⟩ := g
        have : b ≠ a := fun z => by subst z; exact F.sep j i us xs _ ej q h g1 ha
        exact ⟨b, ts, g1, by rw [upd_ne this]; exact g2, g3.sts S F.bs, g4, g5, g6⟩
      | s => exact g
      | m acc =>
        obtain ⟨b, ts, g1, g2, g3, g4, g5, g6⟩ := g
        have : b ≠ a := fun z => by subst z; rw [h2] at g2; cases g2
        exact ⟨b, ts, g1, by rw [upd_ne this]; exact g2, ⟨g3.1, g3.2.sts S F.bs⟩, g4, g5, g6⟩
  · by_cases ej : j = i
    · subst ej
      rw [List.getElem?_set_ne hjk] at q2
      exact F.sep j k xs zs b hjk h q2
    · rw [List.getElem?_set_ne (Ne.symm ej)] at q1
      by_cases ek : k = i
      · subst ek
        exact F.sep j k us xs b hjk q1 h
      · rw [List.getElem?_set_ne (Ne.symm ek)] at q2
        exact F.sep j k us zs b hjk q1 q2
/-- the spring is written -/
theorem Fm.spring (F : Fm K C fz ρ sto σ H) (sto' : Sto) {p : Addr} (hp : C.sp = some p) : Fm K C fz ρ sto' σ (upd H p (.lst (sto'.map V.int))) ∧ Sts C.sp fz H fz (upd H p (.lst (sto'.map V.int))) := by
  have ne : ∀ b, some b ≠ C.sp → b ≠ p := fun b n e => n (by rw [e, hp])
  have S : Sts C.sp fz H fz (upd H p (.lst (sto'.map V.int))) := ⟨fun _ q => q, fun b o q n _ => by rw [upd_ne (ne b n)]; exact q⟩
  refine ⟨⟨F.len, ⟨F.st.mono, fun b o q n => by rw [upd_ne (ne b n)]; exact F.st.ext b o q n, F.st.new, fun t b q z => ?_⟩, ⟨fun b eb => ?_, F.bs.nsp, fun b q z => ?_⟩, fun j c q => ?_, F.sep⟩, S⟩
  · by_cases e : b = p
    · subst e; rw [upd_same] at z; cases z
    · rw [upd_ne e] at z; exact F.st.trk t b q z
  · rw [hp] at eb; cases eb; exact upd_same
  · by_cases e : b = p
    · subst e; rw [upd_same] at z; cases z
    · rw [upd_ne e] at z; exact F.bs.trk b q z
  · have g := F.vars j c q
    cases c with
    | d x => obtain ⟨u, g1, g2⟩ := g; exact ⟨u, g1, g2.sts S F.bs⟩
    | o us =>
      obtain ⟨b, ts, g1, g2, g3, g4, g5, g6⟩ := g
      exact ⟨b, ts, g1, by rw [upd_ne (ne b g5)]; exact g2, g3.sts S F.bs, g4, g5, g6⟩
    | s => exact g
    | m acc =>
      obtain ⟨b, ts, g1, g2, g3, g4, g5, g6⟩ := g
      exact ⟨b, ts, g1, by rw [upd_ne (ne b g5)]; exact g2, ⟨g3.1, g3.2.sts S F.bs⟩, g4, g5, g6⟩
/-- what was given is kept: the frame, with more frozen -/
theorem Fm.keep (F : Fm K C fz ρ sto σ H) (s : Stp C.sp fz H fz1 H1) (l : SpL C.sp H1 sto') {v : V} {r : R} {x : PyData} (i : ImR K C.sp H fz1 H1 v r) (e : toD r = some x) : ∃ fz2, Fm K C fz2 ρ sto' σ H1 ∧ Stp C.sp fz H fz2 H1 ∧ Im K fz2 H1 v x := by
  obtain ⟨fz2, s2, B2, g, im⟩ := i.keep e s (F.bs.step s l)
  exact ⟨fz2, F.step s2 l, s2, im⟩
end
def mApp (i : Nat) (a : Mx) : Ms := fun ρ s => match a ρ s with
  | some (r, s1) => match toD r, ρ[i]? with
    | some x, some (some (.o xs)) => if xs.length < sizeLine then some (.nx, ρ.set i (some (.o (xs ++ [x]))), s1) else none
    | _, _ => none
  | none => none
def mPut (i : Nat) (ix a : Mx) : Ms := fun ρ s => match a ρ s with
  | some (r, s1) => match ix ρ s1 with
    | some (.d (.int k), s2) => match ρ[i]? with
      | some (some (.o xs)) => match toD r, ixN xs.length k with
        | some x, some j => some (.nx, ρ.set i (some (.o (xs.set j x))), s2)
        | _, _ => none
      | some (some .s) => match r, ixN s2.length k with
        | .d (.int v), some j => some (.nx, ρ, s2.set j v)
        | _, _ => none
      | _ => none
    | _ => none
  | none => none
section
variable {X : Cx} {st : Stmt} {rest : List Stmt} {e : Expr} {me mi : Mx} {ma mb : Ms} {tc : Mt} {pos : Pos}
theorem ss_append {i : Nat} {x : Str} {p apos cpos : Pos} (he : SE X e me) (hN : X.N[i]? = some x := by rfl) (hv : Vis X.env.scope x := by first | exact Or.inl rfl | exact Or.inr (Or.inl rfl) | exact Or.inr (Or.inr rfl))
    (hse : starEach [e] X.env = (false, eval e X.env) :: starEach [] X.env := by rfl)
    (hfew : ((backTo cpos (starEach [e] X.env)).all (fun x => !x.1) && (backToKw cpos (keywordEach [] X.env)).all (fun x => x.1.isSome)
      && decide (([e] : List Expr).length + ([] : List Keyword).length + (if ([] : List Keyword).isEmpty then 0 else 1) < 30)) = true := by rfl)
    (hline : (apos.endLine == cpos.line) = true := by rfl)
    (hd : (x == ("__debug__" : Str)) = false := by decide) (hcd : (x == ("__classdict__" : Str)) = false := by decide) (hbase : attributeBase (.Name x p) "append" X.env (eval (.Name x p) X.env) = eval (.Name x p) X.env := by rfl)
    (hs : swapsWith (.Call (.Attribute (.Name x p) "append" apos) [e] [] cpos) none pos.line X.env = pure false := by rfl) : SS X (.Expr (.Call (.Attribute (.Name x p) "append" apos) [e] [] cpos) pos) (mApp i me) :=
  PS.imp (ps_expr (pe_bm PySem.F.plainAttrs_list PySem.F.slot_list_append PySem.F.type_list_append mt_append (pe_var hN hv hd hcd) (pa_cons he pa_nil hse) hbase hfew hline hse) hs) fun D σ H h => by
  obtain ⟨C, fz, ρ, sto, out, ρ', sto', F, e, k⟩ := h
  unfold mApp at e
  split at e
  · rename_i r s1 e1
    split at e
    · rename_i x xs er ex
      split at e
      · rename_i hz
        cases e
        obtain ⟨a, vs, ha, h2, h3, h4, h5, h6⟩ := F.owned ex
        refine ⟨_, ha, .inl ⟨rfl, vs, .inl (.inl h2)⟩, C, fz, ρ, sto, r, _, F, e1, fun v fz1 H1 st1 l1 i1 => ?_⟩
        obtain ⟨fz2, F2, st2, im⟩ := F.keep st1 l1 i1 er
        obtain ⟨a', vs', ha', q2, q3, q4, q5, q6⟩ := F2.owned ex
        rw [ha] at ha'; cases ha'
        refine ⟨a, vs', v, rfl, rfl, q2, by rw [q3.length]; exact hz, ?_⟩
        obtain ⟨F3, S3⟩ := F2.write (ys := xs ++ [x]) ex ha (q3.append (.cons im .nil))
        exact k fz2 σ _ F3 (st2.sts.trans S3)
      · cases e
    · cases e
  · cases e
/-- x[i] = e; hg is pg_sub (pv i) hix set_list -/
theorem ss_put {i : Nat} {tg : Expr} (he : SE X e me) (hg : PG X tg (gSub (tVar i) (rdE X.K mi) rSetL))
    (hs : swapsWithSole [tg] e pos.line X.env = pure false := by rfl) (hw : swappedStores [tg] e X.env = pure none := by rfl) (h1 : (assignEach [tg] X.env).map (·.2) = [assign tg X.env] := by rfl) : SS X (.Assign [tg] e pos) (mPut i mi me) :=
  PS.imp (ps_asg he hg hs hw h1) fun D σ H h => by
  obtain ⟨C, fz, ρ, sto, out, ρ', sto', F, e, k⟩ := h
  unfold mPut at e
  split at e
  · rename_i r s1 e1
    split at e
    · rename_i kk s2 e2
      refine ⟨C, fz, ρ, sto, r, s1, F, e1, fun v fz1 H1 st1 l1 i1 => ?_⟩
      have F1 := F.step st1 l1
      split at e
      · rename_i xs ex
        split at e
        · rename_i x j er ej
          cases e
          obtain ⟨a, vs, ha, h2, h3, h4, h5, h6⟩ := F.owned ex
          refine ⟨_, ha, C, fz1, ρ, s1, _, _, F1, e2, fun w fz2 H2 st2 l2 i2 => ?_⟩
          cases i2
          obtain ⟨fz3, F3, st3, im⟩ := F.keep (st1.trans st2) l2 (i1.stp st2 F1.bs) er
          obtain ⟨a', vs', ha', q2, q3, q4, q5, q6⟩ := F3.owned ex
          rw [ha] at ha'; cases ha'
          refine ⟨a, vs', kk, j, rfl, rfl, q2, by rw [q3.length]; exact ej, ?_⟩
          obtain ⟨F4, S4⟩ := F3.write (ys := xs.set j x) ex ha (q3.set j im)
          exact k fz3 σ _ F4 (st3.sts.trans S4)
        · cases e
      · rename_i ex
        split at e
        · rename_i v' j ej
          cases e
          obtain ⟨p, hp, hs⟩ := F.vars _ _ ex
          refine ⟨_, hs, C, fz1, ρ, s1, _, _, F1, e2, fun w fz2 H2 st2 l2 i2 => ?_⟩
          cases i2
          cases i1
          refine ⟨p, _, kk, j, rfl, rfl, l2 p hp, by rw [List.length_map]; exact ej, ?_⟩
          obtain ⟨F4, S4⟩ := (F1.step st2 l2).spring (s2.set j v') hp
          rw [← List.map_set]
          exact k fz2 σ _ F4 ((st1.trans st2).sts.trans S4)
        · cases e
      · cases e
    · cases e
  · cases e
end
abbrev Gx := PyData → Ev → Option Ev
def rdG (K : PySem.W.Frag) (is : List Nat) (g : Gx) : TG := fun v σ H Q => ∃ (C : Cn) (fz : Fz) (ρ : Ev) (sto : Sto) (x : PyData) (ρ' : Ev), Fm K C fz ρ sto σ H ∧ Im K fz H v x ∧ g x ρ = some ρ' ∧
  ∀ σ', σ'.length = σ.length → (∀ i, i ∉ is → σ'[i]? = σ[i]?) → Fm K C fz ρ' sto σ' H → Q σ' H
theorem PG.impI {X : Cx} {e : Expr} {t t' : TG} (h : PG X e t) (q : ∀ v σ H Q, σ.length = X.N.length → t' v σ H Q → t v σ H Q) : PG X e t' := ⟨fun pins s σ H v u Q I r w => h.run pins s σ H v u Q I r (q _ _ _ _ I.len w)⟩
theorem PGs.impI {X : Cx} {e : List Expr} {t t' : TGs} (h : PGs X e t) (q : ∀ v σ H Q, σ.length = X.N.length → t' v σ H Q → t v σ H Q) : PGs X e t' := ⟨fun pins s σ H v u Q I r w => h.run pins s σ H v u Q I r (q _ _ _ _ I.len w)⟩
def SG (X : Cx) (tg : Expr) (is : List Nat) (g : Gx) : Prop := PG X tg (rdG X.K is g)
abbrev Gxs := List PyData → Ev → Option Ev
def rdGs (K : PySem.W.Frag) (is : List Nat) (g : Gxs) : TGs := fun vs σ H Q => ∃ (C : Cn) (fz : Fz) (ρ : Ev) (sto : Sto) (xs : List PyData) (ρ' : Ev), Fm K C fz ρ sto σ H ∧ ImA K fz H vs xs ∧ g xs ρ = some ρ' ∧
  ∀ σ', σ'.length = σ.length → (∀ i, i ∉ is → σ'[i]? = σ[i]?) → Fm K C fz ρ' sto σ' H → Q σ' H
def SGs (X : Cx) (tg : List Expr) (is : List Nat) (g : Gxs) : Prop := PGs X tg (rdGs X.K is g)
def gN (i : Nat) : Gx := fun x ρ => some (ρ.set i (some (.d x)))
def gT (n : Nat) (g : Gxs) : Gx := fun x ρ => match x with
  | .tuple xs => if xs.length = n then g xs ρ else none
  | _ => none
def gsNil : Gxs := fun xs ρ => match xs with | [] => some ρ | _ => none
def gsCons (g : Gx) (r : Gxs) : Gxs := fun xs ρ => match xs with
  | x :: ys => match g x ρ with | some ρ1 => r ys ρ1 | none => none
  | [] => none
theorem Fm.name {K : PySem.W.Frag} {C : Cn} {fz : Fz} {ρ : Ev} {sto : Sto} {σ : L2.St} {H : Hp} (F : Fm K C fz ρ sto σ H) {v : V} {x : PyData} (im : Im K fz H v x) {i : Nat} (hi : i < σ.length) : Fm K C fz (ρ.set i (some (.d x))) sto (σ.set i (some v)) H :=
  F.put i hi ⟨v, List.getElem?_set_self hi, im⟩ fun xs a e => nomatch e
section
variable {X : Cx} {tg : Expr} {tgs : List Expr} {is js : List Nat} {g : Gx} {gs : Gxs} {pos : Pos}
theorem sg_name {i : Nat} {x : Str} (hN : X.N.Nodup) (hi : X.N[i]? = some x := by rfl) (hx : Loc X.env.scope x := by first | exact Or.inl rfl | exact Or.inr rfl)
    (hf : X.fn x = true ∨ X.env.scope.names.lookup x = some .local := by first | exact .inl rfl | exact .inr rfl) : SG X (.Name x pos) [i] (gN i) := PG.impI (pg_name hN hi hx hf) fun v σ H Q hl h => by
  obtain ⟨C, fz, ρ, sto, x, ρ', F, im, e, k⟩ := h
  cases e
  exact k _ (by rw [List.length_set]) (fun j hj => List.getElem?_set_ne fun z => hj (by rw [z]; exact List.mem_singleton.mpr rfl)) (F.name im (lt_of_slot hi hl))
theorem sgs_nil : SGs X [] [] gsNil := PGs.impI pgs_nil fun v σ H Q hl h => by
  obtain ⟨C, fz, ρ, sto, x, ρ', F, im, e, k⟩ := h
  cases im with
  | nil => cases e; exact ⟨rfl, k σ rfl (fun _ _ => rfl) F⟩
  | cons _ _ => cases e
theorem sgs_cons (h1 : SG X tg is g) (h2 : SGs X tgs js gs) (hs : (assignEach (tg :: tgs) X.env).map (·.2) = assign tg X.env :: (assignEach tgs X.env).map (·.2) := by rfl) : SGs X (tg :: tgs) (is ++ js) (gsCons g gs) := PGs.impI (pgs_cons h1 h2 hs) fun v σ H Q hl h => by
  obtain ⟨C, fz, ρ, sto, x, ρ', F, im, e, k⟩ := h
  cases im with
  | nil => cases e
  | cons a b =>
    unfold gsCons at e
    simp only at e
    split at e
    · rename_i ρ1 e1
      refine ⟨_, _, rfl, C, fz, ρ, sto, _, ρ1, F, a, e1, fun σ1 l1 o1 F1 => ?_⟩
      refine ⟨C, fz, ρ1, sto, _, ρ', F1, b, e, fun σ2 l2 o2 F2 => ?_⟩
      refine k σ2 (l2.trans l1) (fun i hi => ?_) F2
      rw [List.mem_append, not_or] at hi
      exact (o2 i hi.2).trans (o1 i hi.1)
    · cases e
theorem sg_tup {n k : Nat} (hc : X.calm = true) (h : SGs X tgs is gs) (hn : (assignEach tgs X.env).length = n := by rfl) (hst : (assignEach tgs X.env).findIdx? (·.1) = none := by rfl) : SG X (.Tuple tgs k pos) is (gT n gs) := PG.impI (pg_tup hc h hn hst) fun v σ H Q hl h => by
  obtain ⟨C, fz, ρ, sto, x, ρ', F, im, e, k⟩ := h
  unfold gT at e
  split at e
  · rename_i xs
    split at e
    · rename_i hz
      cases im with
      | tup hs ha => exact ⟨_, _, rfl, hs.sq, by rw [ha.length]; exact hz, C, fz, ρ, sto, xs, ρ', F, ha, e, k⟩
    · cases e
  · cases e
/-- target = value -/
def mAsg (g : Gx) (a : Mx) : Ms := fun ρ s => match a ρ s with
  | some (r, s1) => match toD r with
    | some x => match g x ρ with
      | some ρ1 => some (.nx, ρ1, s1)
      | none => none
    | none => none
  | none => none
theorem ss_asg {e : Expr} {me : Mx} (he : SE X e me) (hg : SG X tg is g) (hs : swapsWithSole [tg] e pos.line X.env = pure false := by rfl) (hw : swappedStores [tg] e X.env = pure none := by rfl) (h1 : (assignEach [tg] X.env).map (·.2) = [assign tg X.env] := by rfl) : SS X (.Assign [tg] e pos) (mAsg g me) := PS.imp (ps_asg he hg hs hw h1) fun D σ H h => by
  obtain ⟨C, fz, ρ, sto, out, ρ', sto', F, e, k⟩ := h
  unfold mAsg at e
  split at e
  · rename_i r s1 e1
    split at e
    · rename_i x ex
      split at e
      · rename_i ρ1 eg
        cases e
        refine ⟨C, fz, ρ, sto, r, _, F, e1, fun v fz1 H1 st1 l1 i1 => ?_⟩
        obtain ⟨fz2, F2, st2, im⟩ := F.keep st1 l1 i1 ex
        exact ⟨C, fz2, ρ, _, x, ρ', F2, im, eg, fun σ1 _ _ F3 => k fz2 σ1 H1 F3 st2.sts⟩
      · cases e
    · cases e
  · cases e
/-- a, b = e1, e2 (two names of the def) -/
def mPar (i j : Nat) (a : Ma) : Ms := fun ρ s => match a ρ s with
  | some ([r, q], s1) => match toCl r, toCl q with
    | some c, some d => match c, d with
      | .o _, .o _ => none
      | c, d => some (.nx, (ρ.set i (some c)).set j (some d), s1)
    | _, _ => none
  | _ => none
theorem ss_par {i j : Nat} {x y : Str} {a b : Expr} {m : Ma} {px py pt : Pos} {kt k2 pt2} (hc : X.calm = true) (hN : X.N.Nodup) (ha : SA X [a, b] m) (hi : X.N[i]? = some x := by rfl) (hj : X.N[j]? = some y := by rfl) (hij : i ≠ j := by decide)
    (hx : X.env.scope.names.lookup x = some .local := by rfl) (hy : X.env.scope.names.lookup y = some .local := by rfl)
    (hw : swappedStores [.Tuple [.Name x px, .Name y py] kt pt] (.Tuple [a, b] k2 pt2) X.env = pure (some [x, y]) := by rfl)
    (hs : swapsWithSole [.Tuple [.Name x px, .Name y py] kt pt] (.Tuple [a, b] k2 pt2) pos.line X.env = pure false := by rfl) :
    SS X (.Assign [.Tuple [.Name x px, .Name y py] kt pt] (.Tuple [a, b] k2 pt2) pos) (mPar i j m) := PS.impI (ps_par hc hN hi hj hij hx hy ha hw hs) fun D σ H hl h => by
  obtain ⟨C, fz, ρ, sto, out, ρ', sto', F, e, k⟩ := h
  unfold mPar at e
  split at e
  · rename_i r q s1 e1
    split at e
    · rename_i c d ec ed
      split at e
      · cases e
      · rename_i no
        cases e
        refine ⟨C, fz, ρ, sto, _, _, F, e1, fun vs fz1 H1 st1 l1 i1 => ?_⟩
        cases i1 with
        | cons iv t =>
          cases t with
          | cons iw t =>
            cases t
            rename_i v w
            refine ⟨v, w, rfl, ?_⟩
            have hi' := lt_of_slot hi hl
            have hj' := lt_of_slot hj hl
            have F1 := F.give st1 l1 iv ec hi'
            -- the second one, its address apart from the first one's
            refine k fz1 _ H1 (F1.put j (by rw [List.length_set]; exact hj') ?_ ?_) st1.sts
            · have g : ((σ.set i (some v)).set j (some w))[j]? = some (some w) := List.getElem?_set_self (by rw [List.length_set]; exact hj')
              cases q with
              | d x => cases ed; exact ⟨w, g, iw⟩
              | f xs =>
                cases ed
                obtain ⟨a, vs, rfl, h1, h2, h3, h4, h5⟩ := iw
                exact ⟨a, vs, g, h1, h2, h3, h4, F.st.back h4 h5⟩
              | b xs => cases ed
              | s => cases ed; obtain ⟨a, ea, rfl⟩ := (show IsS C.sp w from iw); exact ⟨a, ea, g⟩
              | m acc =>
                cases ed
                obtain ⟨a, vs, rfl, h1, h2, h3, h4, h5⟩ := iw
                exact ⟨a, vs, g, h1, h2, h3, h4, F.st.back h4 h5⟩
              | n acc => cases ed
            · intro xs a edx ew n ys hn h1 h2
              subst edx
              cases q with
              | d x => cases ed
              | b x => cases ed
              | s => cases ed
              | m _ => cases ed
              | n _ => cases ed
              | f zs =>
                cases ed
                obtain ⟨b, vs, eb, h3, h4, h5, h6, h7⟩ := iw
                rw [ew] at eb; cases eb
                by_cases en : n = i
                · subst en
                  rw [List.getElem?_set_self (by rw [F.len]; exact hi')] at h1
                  cases h1
                  exact no ys _ rfl rfl
                · rw [List.getElem?_set_ne (Ne.symm en)] at h1 h2
                  obtain ⟨b, ws, q1, q2, _⟩ := F.owned h1
                  rw [h2] at q1; cases q1
                  rw [h7] at q2; cases q2
    · cases e
  · cases e
end
end Dh
namespace Dh
open PySem PySem.Spec L2
abbrev Mi := Ev → Sto → Option (List PyData × Sto)
/-- J goes through the data xs, for as long as what is frozen stands -/
structure Goes (K : PySem.W.Frag) (sp : Option Addr) (fz : Fz) (H : Hp) (J : It) (xs : List PyData) : Prop where
  go : ∀ (i : Nat) fz1 H1 sto, i < xs.length → Sts sp fz H fz1 H1 → Bs sp fz1 H1 sto → J.go i H1
  stop : ∀ fz1 H1 sto, Sts sp fz H fz1 H1 → Bs sp fz1 H1 sto → J.stop xs.length H1
  yld : ∀ (i : Nat) (x : PyData) fz1 H1 sto v H2, xs[i]? = some x → Sts sp fz H fz1 H1 → Bs sp fz1 H1 sto → J.yld i H1 v H2 → Stp sp fz1 H1 fz1 H2 ∧ SpL sp H2 sto ∧ Im K fz1 H2 v x
def rdI (K : PySem.W.Frag) (m : Mi) : TI := fun σ H R => ∃ (C : Cn) (fz : Fz) (ρ : Ev) (sto : Sto) (xs : List PyData) (sto' : Sto), Fm K C fz ρ sto σ H ∧ m ρ sto = some (xs, sto') ∧
  ∀ J fz' H', Stp C.sp fz H fz' H' → SpL C.sp H' sto' → Goes K C.sp fz' H' J xs → R J H'
def SI (X : Cx) (tg iter : Expr) (m : Mi) : Prop := PI X tg iter (rdI X.K m)
theorem PI.imp {X : Cx} {tg e : Expr} {t t' : TI} (h : PI X tg e t) (q : ∀ σ H R, t' σ H R → t σ H R) : PI X tg e t' := ⟨fun pins s σ H R I w => h.run pins s σ H R I (q _ _ _ w)⟩
def forRun (g : Gx) (body : Ms) : List PyData → Ms
  | [] => fun ρ s => some (.nx, ρ, s)
  | x :: xs => fun ρ s => match g x ρ with
    | none => none
    | some ρ1 => match body ρ1 s with
      | some (.nx, ρ2, s2) => forRun g body xs ρ2 s2
      | some (.ct, ρ2, s2) => forRun g body xs ρ2 s2
      | some (.bk, ρ2, s2) => some (.nx, ρ2, s2)
      | some (.rt r, ρ2, s2) => some (.rt r, ρ2, s2)
      | none => none
def mFor (it : Mi) (g : Gx) (body : Ms) : Ms := fun ρ s => match it ρ s with
  | some (xs, s1) => forRun g body xs ρ s1
  | none => none
section
variable {X : Cx} {tg iter : Expr} {is : List Nat} {g : Gx} {mi : Mi} {body : List Stmt} {mb : Ms} {pos : Pos}
theorem rs_for {K : PySem.W.Frag} {D : Ends} {σ : L2.St} {H : Hp} (h : rdS K (mFor mi g mb) D σ H) : tFor (rdI K mi) (rdG K is g) (rdS K mb) D σ H := by
  obtain ⟨C, fz, ρ, sto, out, ρ', sto', F, e, k⟩ := h
  unfold mFor at e
  split at e
  · rename_i xs s1 e1
    refine ⟨C, fz, ρ, sto, xs, s1, F, e1, fun J fz1 H1 st1 l1 G => ?_⟩
    have F1 := F.step st1 l1
    let W : Nat → Nat → L2.St → Hp → Prop := fun i m σ' H' => m = xs.length - i ∧ i ≤ xs.length ∧ ∃ fz2 ρ2 s2, Fm K C fz2 ρ2 s2 σ' H' ∧ Sts C.sp fz1 H1 fz2 H' ∧ forRun g mb (xs.drop i) ρ2 s2 = some (out, ρ', sto')
    refine ⟨W, ⟨xs.length, by simp, Nat.zero_le _, fz1, ρ, s1, F1, .refl, e⟩, ?_⟩
    rintro i m σ2 H2 ⟨rfl, hi, fz2, ρ2, s2, F2, S2, e2⟩
    by_cases hlt : i < xs.length
    · have hx : xs[i]? = some xs[i] := List.getElem?_eq_getElem hlt
      rw [List.drop_eq_getElem_cons hlt] at e2
      unfold forRun at e2
      split at e2
      · cases e2
      · rename_i ρ3 e3
        refine .inr ⟨G.go i fz2 H2 s2 hlt S2 F2.bs, fun σ' H' => W (i + 1) (xs.length - (i + 1)) σ' H', fun σ' H' w => ⟨xs.length - (i + 1), by omega, w⟩, fun v H3 y => ?_⟩
        obtain ⟨st3, l3, im⟩ := G.yld i _ fz2 H2 s2 v H3 hx S2 F2.bs y
        refine ⟨C, fz2, ρ2, s2, xs[i], ρ3, F2.step st3 l3, im, e3, fun σ4 hl4 ho4 F4 => ?_⟩
        have S3 := S2.trans st3.sts
        split at e2
        · rename_i ρ5 s5 e5
          refine ⟨C, fz2, ρ3, s2, .nx, ρ5, s5, F4, e5, fun fz6 σ6 H6 F6 S6 => ?_⟩
          exact ⟨rfl, hlt, fz6, ρ5, s5, F6, S3.trans S6, e2⟩
        · rename_i ρ5 s5 e5
          refine ⟨C, fz2, ρ3, s2, .ct, ρ5, s5, F4, e5, fun fz6 σ6 H6 F6 S6 => ?_⟩
          exact ⟨rfl, hlt, fz6, ρ5, s5, F6, S3.trans S6, e2⟩
        · rename_i ρ5 s5 e5
          cases e2
          refine ⟨C, fz2, ρ3, s2, .bk, ρ', sto', F4, e5, fun fz6 σ6 H6 F6 S6 => ?_⟩
          exact k fz6 σ6 H6 F6 (st1.sts.trans (S3.trans S6))
        · rename_i r ρ5 s5 e5
          cases e2
          refine ⟨C, fz2, ρ3, s2, .rt r, ρ', sto', F4, e5, fun fz6 σ6 H6 F6 S6 => ?_⟩
          exact k fz6 σ6 H6 F6 (st1.sts.trans (S3.trans S6))
        · cases e2
    · have ei : i = xs.length := by omega
      subst ei
      rw [List.drop_length] at e2
      cases e2
      exact .inl ⟨G.stop fz2 H2 _ S2 F2.bs, k fz2 σ2 H2 F2 (st1.sts.trans S2)⟩
  · cases e
theorem ss_for (hp : PassesOwn (model X.prog X.w) X.A X.env X.xe) (hc : X.calm = true) (hi : SI X tg iter mi) (hg : SG X tg is g) (hb : SL X body mb) (hs : ∀ x, foldedSetIterable iter X.env x = pure x := by intro _; rfl) :
    SS X (.For tg iter body [] pos) (mFor mi g mb) := PS.imp (ps_for hp hc hi hg hb hs) fun _ _ _ h => rs_for h
end
def whRun (c : Mt) (body : Ms) : Nat → Ms
  | 0 => fun _ _ => none
  | n + 1 => fun ρ s => match c ρ s with
    | none => none
    | some (false, s1) => some (.nx, ρ, s1)
    | some (true, s1) => match body ρ s1 with
      | some (.nx, ρ2, s2) => whRun c body n ρ2 s2
      | some (.ct, ρ2, s2) => whRun c body n ρ2 s2
      | some (.bk, ρ2, s2) => some (.nx, ρ2, s2)
      | some (.rt r, ρ2, s2) => some (.rt r, ρ2, s2)
      | none => none
theorem whRun_eq {c : Mt} {body : Ms} {n : Nat} {ρ : Ev} {s : Sto} : whRun c body (n + 1) ρ s = (match c ρ s with
    | none => none
    | some (false, s1) => some (.nx, ρ, s1)
    | some (true, s1) => match body ρ s1 with
      | some (.nx, ρ2, s2) => whRun c body n ρ2 s2
      | some (.ct, ρ2, s2) => whRun c body n ρ2 s2
      | some (.bk, ρ2, s2) => some (.nx, ρ2, s2)
      | some (.rt r, ρ2, s2) => some (.rt r, ρ2, s2)
      | none => none) := rfl
theorem whRun_succ {c : Mt} {body : Ms} : ∀ {n : Nat} {ρ : Ev} {s : Sto} {r : Out × Ev × Sto}, whRun c body n ρ s = some r → whRun c body (n + 1) ρ s = some r
  | 0, _, _, _, h => by cases h
  | n + 1, ρ, s, r, h => by
    rw [whRun_eq] at h
    rw [whRun_eq]
    cases hc : c ρ s with
    | none => rw [hc] at h; cases h
    | some p =>
      obtain ⟨k, s1⟩ := p
      rw [hc] at h
      cases k with
      | false => exact h
      | true =>
        cases hb : body ρ s1 with
        | none => simp only [hb] at h; cases h
        | some q =>
          obtain ⟨out, ρ2, s2⟩ := q
          simp only [hb] at h ⊢
          cases out with
          | nx => exact whRun_succ h
          | ct => exact whRun_succ h
          | bk => exact h
          | rt r' => exact h
theorem whRun_le {c : Mt} {body : Ms} {n m : Nat} (h : n ≤ m) {ρ : Ev} {s : Sto} {r : Out × Ev × Sto} (e : whRun c body n ρ s = some r) : whRun c body m ρ s = some r := by
  induction h with
  | refl => exact e
  | step _ ih => exact whRun_succ ih
open Classical in
noncomputable def mWhile (c : Mt) (body : Ms) : Ms := fun ρ s => if h : ∃ (n : Nat) (r : Out × Ev × Sto), whRun c body n ρ s = some r then some (choose (choose_spec h)) else none
theorem mWhile_of {c : Mt} {body : Ms} {n : Nat} {ρ : Ev} {s : Sto} {r : Out × Ev × Sto} (e : whRun c body n ρ s = some r) : mWhile c body ρ s = some r := by
  have h : ∃ (n : Nat) (r : Out × Ev × Sto), whRun c body n ρ s = some r := ⟨n, r, e⟩
  unfold mWhile
  rw [dif_pos h]
  have q := Classical.choose_spec (Classical.choose_spec h)
  have a := whRun_le (Nat.le_max_left n (Classical.choose h)) e
  have b := whRun_le (Nat.le_max_right n (Classical.choose h)) q
  rw [a] at b
  exact b.symm
theorem mWhile_some {c : Mt} {body : Ms} {ρ : Ev} {s : Sto} {r : Out × Ev × Sto} (h : mWhile c body ρ s = some r) : ∃ n, whRun c body n ρ s = some r := by
  unfold mWhile at h
  split at h
  · rename_i q
    have p := Classical.choose_spec (Classical.choose_spec q)
    cases h
    exact ⟨_, p⟩
  · cases h
section
variable {X : Cx} {c : Expr} {tc : Mt} {body : List Stmt} {mb : Ms} {pos : Pos}
theorem rs_while {K : PySem.W.Frag} {D : Ends} {σ : L2.St} {H : Hp} (h : rdS K (mWhile tc mb) D σ H) : tWhile (rdT K tc) (rdS K mb) D σ H := by
  obtain ⟨C, fz, ρ, sto, out, ρ', sto', F, e, k⟩ := h
  obtain ⟨n, e⟩ := mWhile_some e
  let W : Nat → L2.St → Hp → Prop := fun m σ' H' => ∃ fz2 ρ2 s2, Fm K C fz2 ρ2 s2 σ' H' ∧ Sts C.sp fz H fz2 H' ∧ whRun tc mb m ρ2 s2 = some (out, ρ', sto')
  refine ⟨W, ⟨n, fz, ρ, sto, F, .refl, e⟩, ?_⟩
  rintro m σ2 H2 ⟨fz2, ρ2, s2, F2, S2, e2⟩
  cases m with
  | zero => cases e2
  | succ m =>
    unfold whRun at e2
    split at e2
    · cases e2
    · rename_i s3 e3
      cases e2
      exact ⟨C, fz2, ρ', s2, false, _, F2, e3, fun fz4 H4 st4 l4 => k fz4 σ2 H4 (F2.step st4 l4) (S2.trans st4.sts)⟩
    · rename_i s3 e3
      refine ⟨C, fz2, ρ2, s2, true, s3, F2, e3, fun fz4 H4 st4 l4 => ?_⟩
      have F4 := F2.step st4 l4
      have S4 := S2.trans st4.sts
      show ∃ N : L2.St → Hp → Prop, (∀ σ' H', N σ' H' → ∃ m', m' < m + 1 ∧ W m' σ' H') ∧ _
      refine ⟨fun σ' H' => W m σ' H', fun σ' H' w => ⟨m, Nat.lt_succ_self m, w⟩, ?_⟩
      split at e2
      · rename_i ρ5 s5 e5
        exact ⟨C, fz4, ρ2, s3, .nx, ρ5, s5, F4, e5, fun fz6 σ6 H6 F6 S6 => ⟨fz6, ρ5, s5, F6, S4.trans S6, e2⟩⟩
      · rename_i ρ5 s5 e5
        exact ⟨C, fz4, ρ2, s3, .ct, ρ5, s5, F4, e5, fun fz6 σ6 H6 F6 S6 => ⟨fz6, ρ5, s5, F6, S4.trans S6, e2⟩⟩
      · rename_i ρ5 s5 e5
        cases e2
        exact ⟨C, fz4, ρ2, s3, .bk, ρ', sto', F4, e5, fun fz6 σ6 H6 F6 S6 => k fz6 σ6 H6 F6 (S4.trans S6)⟩
      · rename_i r ρ5 s5 e5
        cases e2
        exact ⟨C, fz4, ρ2, s3, .rt r, ρ', sto', F4, e5, fun fz6 σ6 H6 F6 S6 => k fz6 σ6 H6 F6 (S4.trans S6)⟩
      · cases e2
theorem ss_while (hp : PassesOwn (model X.prog X.w) X.A X.env X.xe) (hc : SB X c tc) (hb : SL X body mb) : SS X (.While c body [] pos) (mWhile tc mb) := PS.imp (ps_while hp hc hb) fun _ _ _ h => rs_while h
end
def wipeE (ρ : Ev) : List Nat → Ev
  | [] => ρ
  | v :: vs => (wipeE ρ vs).set v none
theorem wipeE_length (ρ : Ev) : ∀ vs : List Nat, (wipeE ρ vs).length = ρ.length
  | [] => rfl
  | v :: vs => by unfold wipeE; rw [List.length_set, wipeE_length ρ vs]
theorem wipeE_some {ρ : Ev} {i : Nat} {c : Cl} : ∀ {vs : List Nat}, (wipeE ρ vs)[i]? = some (some c) → ρ[i]? = some (some c) ∧ i ∉ vs
  | [], h => ⟨h, by simp⟩
  | v :: vs, h => by
    unfold wipeE at h
    by_cases e : i = v
    · subst e
      by_cases hi : i < (wipeE ρ vs).length
      · rw [List.getElem?_set_self hi] at h; cases h
      · rw [List.getElem?_eq_none (by rw [List.length_set]; omega)] at h; cases h
    · rw [List.getElem?_set_ne (Ne.symm e)] at h
      obtain ⟨h1, h2⟩ := wipeE_some h
      exact ⟨h1, by simp [e, h2]⟩
section
variable {K : PySem.W.Frag} {C : Cn} {fz fz1 : Fz} {ρ : Ev} {sto sto' : Sto} {σ : L2.St} {H H1 : Hp}
theorem Fm.wipe (F : Fm K C fz ρ sto σ H) (vs : List Nat) : Fm K C fz (wipeE ρ vs) sto (L2.wipe σ vs) H where
  len := by rw [wipeE_length, wipe_length, F.len]
  st := F.st
  bs := F.bs
  vars := fun i c h => by
    obtain ⟨h1, h2⟩ := wipeE_some h
    have q := F.vars i c h1
    cases c with
    | d x => obtain ⟨u, e1, e2⟩ := q; exact ⟨u, (wipe_out h2).trans e1, e2⟩
    | o xs => obtain ⟨a, vs, e1, e2⟩ := q; exact ⟨a, vs, (wipe_out h2).trans e1, e2⟩
    | s => obtain ⟨a, ea, q⟩ := q; exact ⟨a, ea, (wipe_out h2).trans q⟩
    | m acc => obtain ⟨a, vs, e1, e2⟩ := q; exact ⟨a, vs, (wipe_out h2).trans e1, e2⟩
  sep := fun i j xs ys a hij h1 h2 h3 h4 => by
    obtain ⟨g1, n1⟩ := wipeE_some h1
    obtain ⟨g2, n2⟩ := wipeE_some h2
    rw [wipe_out n1] at h3
    rw [wipe_out n2] at h4
    exact F.sep i j xs ys a hij g1 g2 h3 h4
/-- a list that nobody owns is written -/
theorem Fm.side (F : Fm K C fz ρ sto σ H) {D : Addr} {ws : List V} (hD : ∃ us, H D = some (.lst us)) (nf : ¬ fz D) (ns : some D ≠ C.sp) (n0 : C.H0 D = none) (no : ∀ (i : Nat) (xs : List PyData), ρ[i]? = some (some (Cl.o xs)) → σ[i]? ≠ some (some (V.ref D))) :
    Fm K C fz ρ sto σ (upd H D (.lst ws)) ∧ Sts C.sp fz H fz (upd H D (.lst ws)) := by
  obtain ⟨us, hD⟩ := hD
  have S : Sts C.sp fz H fz (upd H D (.lst ws)) := ⟨fun _ q => q, fun b o q n c => by
    have : b ≠ D := fun z => by
      subst z
      rcases c with c | c
      · exact nf c
      · rw [hD] at q; cases q; exact c.1 _ rfl
    rw [upd_ne this]; exact q⟩
  refine ⟨⟨F.len, ⟨F.st.mono, fun b o q n => ?_, F.st.new, fun t b q z => ?_⟩, ⟨?_, F.bs.nsp, fun b q z => ?_⟩, fun j c q => ?_, F.sep⟩, S⟩
  · have : b ≠ D := fun z => by subst z; rw [n0] at q; cases q
    rw [upd_ne this]; exact F.st.ext b o q n
  · by_cases e : b = D
    · subst e; rw [upd_same] at z; cases z
    · rw [upd_ne e] at z; exact F.st.trk t b q z
  · exact F.bs.spl.upd ns
  · by_cases e : b = D
    · subst e; rw [upd_same] at z; cases z
    · rw [upd_ne e] at z; exact F.bs.trk b q z
  · have g := F.vars j c q
    cases c with
    | d x => obtain ⟨u, g1, g2⟩ := g; exact ⟨u, g1, g2.sts S F.bs⟩
    | o us =>
      obtain ⟨b, ts, g1, g2, g3, g4, g5, g6⟩ := g
      have : b ≠ D := fun z => by subst z; exact no j us q g1
      exact ⟨b, ts, g1, by rw [upd_ne this]; exact g2, g3.sts S F.bs, g4, g5, g6⟩
    | s => exact g
    | m acc =>
      obtain ⟨b, ts, g1, g2, g3, g4, g5, g6⟩ := g
      have : b ≠ D := fun z => by subst z; rw [hD] at g2; cases g2
      exact ⟨b, ts, g1, by rw [upd_ne this]; exact g2, ⟨g3.1, g3.2.sts S F.bs⟩, g4, g5, g6⟩
end
def lcRun (vs : List Nat) (g : Gx) (t : Mt) (e : Mx) : List PyData → Ev → Sto → Option (List PyData × Sto)
  | [] => fun _ s => some ([], s)
  | x :: xs => fun ρ s => match g x (wipeE ρ vs) with
    | none => none
    | some ρ1 => match t ρ1 s with
      | none => none
      | some (false, s1) => lcRun vs g t e xs ρ s1
      | some (true, s1) => match e ρ1 s1 with
        | none => none
        | some (r, s2) => match toD r, lcRun vs g t e xs ρ s2 with
          | some y, some (ys, s3) => some (y :: ys, s3)
          | _, _ => none
def mLc (it : Mi) (vs : List Nat) (g : Gx) (t : Mt) (e : Mx) : Mx := fun ρ s => match it ρ s with
  | some (xs, s1) => match lcRun vs g t e xs ρ s1 with
    | some (ys, s2) => if ys.length ≤ sizeLine then some (.f ys, s2) else none
    | none => none
  | none => none
def mYes : Mt := fun _ s => some (true, s)
theorem wipe_agree {σ σ2 : L2.St} {vs is : List Nat} (hl : σ2.length = (wipe σ vs).length) (ho : ∀ i, i ∉ is → σ2[i]? = (wipe σ vs)[i]?) (hs : ∀ i, i ∈ is → i ∈ vs) : wipe σ2 vs = wipe σ vs := by
  have key : ∀ (τ : L2.St) (ws : List Nat) (i : Nat), (wipe τ ws)[i]? = if i ∈ ws then (if i < τ.length then some none else none) else τ[i]? := by
    intro τ ws
    induction ws with
    | nil => intro i; simp [wipe]
    | cons w ws ih =>
      intro i
      unfold wipe
      by_cases e : i = w
      · subst e
        by_cases hi : i < τ.length
        · rw [List.getElem?_set_self (by rw [wipe_length]; exact hi)]; simp [hi]
        · rw [List.getElem?_eq_none (by rw [List.length_set, wipe_length]; omega)]; simp [hi]
      · rw [List.getElem?_set_ne (Ne.symm e), ih i]
        simp [e]
  have hl' : σ2.length = σ.length := by rw [hl, wipe_length]
  apply List.ext_getElem?
  intro i
  rw [key σ2 vs i, key σ vs i, hl']
  by_cases hi : i ∈ vs
  · simp [hi]
  · simp only [hi, if_false]
    rw [ho i fun z => hi (hs i z), key σ vs i]
    simp [hi]
section
variable {K : PySem.W.Frag} {mi : Mi} {g : Gx} {is vs : List Nat} {mt : Mt} {me : Mx}
theorem rd_lc (hs : ∀ i, i ∈ is → i ∈ vs) {σ : L2.St} {H : Hp} {Q : VK} (h : rdE K (mLc mi vs g mt me) σ H Q) : tLc (rdI K mi) (rdG K is g) (rdT K mt) (rdE K me) vs σ H Q := by
  obtain ⟨C, fz, ρ, sto, z, sto', F, e, k⟩ := h
  unfold mLc at e
  split at e
  · rename_i xs s1 e1
    split at e
    · rename_i ys s2 e2
      split at e
      · rename_i hz
        cases e
        refine ⟨C, fz, ρ, sto, xs, s1, F, e1, fun J fz1 H1 st1 l1 G => ?_⟩
        have F1 := F.step st1 l1
        intro D hD
        have nD : some D ≠ C.sp := l1.ne hD (by intro z; cases z)
        have n0 : C.H0 D = none := F1.st.back nD hD
        have nfz : ¬ fz1 D := fun z => F1.bs.trk D z hD
        have noD : ∀ (i : Nat) (us : List PyData), ρ[i]? = some (some (Cl.o us)) → σ[i]? ≠ some (some (V.ref D)) := fun i us q1 q2 => by
          obtain ⟨a, ws, g1, g2, _⟩ := F1.owned q1
          rw [q2] at g1; cases g1
          rw [hD] at g2; cases g2
        let W : Nat → Nat → Hp → Prop := fun i m H' => m = xs.length - i ∧ i ≤ xs.length ∧ ∃ (fz2 : Fz) (s3 : Sto) (acc : List V) (ya yb : List PyData), Fm K C fz2 ρ s3 σ H' ∧ Stp C.sp fz1 H1 fz2 H' ∧ H' D = some (.lst acc) ∧ ImA K fz2 H' acc ya ∧ ¬ fz2 D ∧
          lcRun vs g mt me (xs.drop i) ρ s3 = some (yb, sto') ∧ ys = ya ++ yb
        have st2 : Stp C.sp fz1 H1 fz1 (upd H1 D (.lst [])) := .laid hD
        have l2 : SpL C.sp (upd H1 D (.lst [])) s1 := l1.upd nD
        refine ⟨W, ⟨xs.length, by simp, Nat.zero_le _, fz1, s1, [], [], ys, F1.step st2 l2, st2, upd_same, .nil, nfz, e2, rfl⟩, ?_⟩
        rintro i m H2 ⟨rfl, hi, fz2, s3, acc, ya, yb, F2, S2, hD2, im2, nf2, e3, ey⟩
        by_cases hlt : i < xs.length
        · have hx : xs[i]? = some xs[i] := List.getElem?_eq_getElem hlt
          rw [List.drop_eq_getElem_cons hlt] at e3
          unfold lcRun at e3
          split at e3
          · cases e3
          · rename_i ρ4 e4
            refine .inr ⟨G.go i fz2 H2 s3 hlt S2.sts F2.bs, fun H' => W (i + 1) (xs.length - (i + 1)) H', fun H' w => ⟨xs.length - (i + 1), by omega, w⟩, fun v H3 y => ?_⟩
            obtain ⟨st3, l3, im⟩ := G.yld i _ fz2 H2 s3 v H3 hx S2.sts F2.bs y
            have F3 := F2.step st3 l3
            refine ⟨C, fz2, wipeE ρ vs, s3, xs[i], ρ4, F3.wipe vs, im, e4, fun σ4 hl4 ho4 F4 => ?_⟩
            refine ⟨wipe_agree hl4 ho4 hs, ?_⟩
            have hD3 : H3 D = some (.lst acc) := st3.ext _ _ hD2 nD
            split at e3
            · cases e3
            · rename_i s5 e5
              refine ⟨C, fz2, ρ4, s3, false, s5, F4, e5, fun fz6 H6 st6 l6 => ?_⟩
              refine iteF ?_
              have F6 := F3.step st6 l6
              refine ⟨rfl, hlt, fz6, s5, acc, ya, yb, F6, (S2.trans st3).trans st6, st6.ext _ _ hD3 nD, (im2.stp st3 F2.bs).stp st6 F3.bs, fun z => ?_, e3, ey⟩
              rcases st6.new D z with z | ⟨_, z⟩
              · exact nf2 z
              · rw [hD3] at z; cases z
            · rename_i s5 e5
              refine ⟨C, fz2, ρ4, s3, true, s5, F4, e5, fun fz6 H6 st6 l6 => ?_⟩
              refine iteT ?_
              have F6 := F3.step st6 l6
              have F46 := F4.step st6 l6
              have hD6 : H6 D = some (.lst acc) := st6.ext _ _ hD3 nD
              split at e3
              · cases e3
              · rename_i r s7 e7
                split at e3
                · rename_i y ys' s8 ey' e8
                  cases e3
                  refine ⟨C, fz6, ρ4, s5, r, s7, F46, e7, fun w fz8 H8 st8 l8 i8 => ?_⟩
                  obtain ⟨fz9, F9, st9, im9⟩ := F6.keep st8 l8 i8 ey'
                  have hD8 : H8 D = some (.lst acc) := st8.ext _ _ hD6 nD
                  have nf9 : ¬ fz9 D := fun z => by
                    rcases st9.new D z with z | ⟨_, z⟩
                    · rcases st6.new D z with z | ⟨_, z⟩
                      · exact nf2 z
                      · rw [hD3] at z; cases z
                    · rw [hD6] at z; cases z
                  have ia : ImA K fz9 H8 acc ya := ((im2.stp st3 F2.bs).stp st6 F3.bs).stp st9 F6.bs
                  have il : acc.length = ya.length := ia.length
                  refine ⟨acc, hD8, ?_, rfl, hlt, fz9, s7, acc ++ [w], ya ++ [y], ys', ?_⟩
                  · rw [il]
                    have := congrArg List.length ey
                    rw [List.length_append, List.length_cons] at this
                    omega
                  · obtain ⟨F10, S10⟩ := F9.side (ws := acc ++ [w]) ⟨acc, hD8⟩ nf9 nD n0 noD
                    have st10 : Stp C.sp fz1 H1 fz9 (upd H8 D (.lst (acc ++ [w]))) := by
                      have q := (((S2.trans st3).trans st6).trans st9)
                      refine ⟨q.mono, fun b o qb n => ?_, q.new, fun t b qb z => ?_⟩
                      · have : b ≠ D := fun z => by subst z; rw [hD] at qb; cases qb
                        rw [upd_ne this]; exact q.ext b o qb n
                      · by_cases eb : b = D
                        · subst eb; rw [upd_same] at z; cases z
                        · rw [upd_ne eb] at z; exact q.trk t b qb z
                    exact ⟨F10, st10, upd_same, (ia.append (.cons im9 .nil)).sts S10 F9.bs, nf9, e8, by rw [ey, List.append_assoc]; rfl⟩
                · cases e3
        · have ei : i = xs.length := by omega
          subst ei
          rw [List.drop_length] at e3
          cases e3
          refine .inl ⟨G.stop fz2 H2 _ S2.sts F2.bs, ?_⟩
          refine k _ fz2 H2 (st1.trans S2) F2.bs.spl ⟨D, acc, rfl, hD2, ?_, nf2, nD, st1.back nD hD⟩
          rw [ey, List.append_nil]
          exact im2
      · cases e
    · cases e
  · cases e
end
section
variable {X : Cx} {elt tg iter : Expr} {ifs : List Expr} {scope : Scope} {own : List (Str × Nat)} {pos : Pos} {is : List Nat} {mi : Mi} {g : Gx} {mt : Mt} {me : Mx}
def STs (X : Cx) (ifs : List Expr) (t : Mt) : Prop := PTs X ifs (rdT X.K t)
theorem sts_nil : STs X [] mYes := ⟨fun pins s σ H Q I w => pts_nil.run pins s σ H Q I (by
  obtain ⟨C, fz, ρ, sto, r, sto', F, e, k⟩ := w
  cases e
  exact k fz H .refl F.bs.spl)⟩
theorem sts_one {c : Expr} {t : Mt} (h : SB X c t) : STs X [c] t := pts_one h
theorem se_lc (hc : X.calm = true) (hN : X.N.Nodup) (hi : SI X tg iter mi) (ok : BlkOk X.N X.env.scope scope own) (hs : ∀ i, i ∈ is → i ∈ own.map (·.2))
    (hg : ∀ (s : Shared) (H : Hp) (C : Addr) (cl : List (Str × Addr)) (fp : List Addr), SG (X.blk s H scope (compEnvC scope cl C X.env) fp) tg is g) (ht : ∀ (s : Shared) (H : Hp) (C : Addr) (cl : List (Str × Addr)) (fp : List Addr), STs (X.blk s H scope (compEnvC scope cl C X.env) fp) ifs mt)
    (he : ∀ (s : Shared) (H : Hp) (C : Addr) (cl : List (Str × Addr)) (fp : List Addr), SE (X.blk s H scope (compEnvC scope cl C X.env) fp) elt me) (hf : ∀ x, foldedSetIterable iter X.env x = pure x := by intro _; rfl) :
    SE X (.ListComp elt [⟨tg, iter, ifs, 0⟩] scope pos) (mLc mi (own.map (·.2)) g mt me) := PE.imp (pe_lc (g := rdG X.K is g) (tt := rdT X.K mt) (te := rdE X.K me) hc hN hi ok hg ht he hf) fun _ _ _ h => rd_lc hs h
/-- name = [..] -/
theorem ss_setLc {i : Nat} {y : Str} {py spos : Pos} (hc : X.calm = true) (hN : X.N.Nodup) (hy : X.N[i]? = some y) (hyl : X.env.scope.names.lookup y = some .local)
    (hsw : swapsWith (.ListComp elt [⟨tg, iter, ifs, 0⟩] scope pos) (some (.Name y py)) spos.line X.env = pure true) (hi : SI X tg iter mi) (ok : BlkOk X.N X.env.scope scope own) (hs : ∀ i, i ∈ is → i ∈ own.map (·.2))
    (hg : ∀ (s : Shared) (H : Hp) (C : Addr) (cl : List (Str × Addr)) (fp : List Addr), SG (X.blk s H scope (compEnvC scope cl C X.env) fp) tg is g) (ht : ∀ (s : Shared) (H : Hp) (C : Addr) (cl : List (Str × Addr)) (fp : List Addr), STs (X.blk s H scope (compEnvC scope cl C X.env) fp) ifs mt)
    (he : ∀ (s : Shared) (H : Hp) (C : Addr) (cl : List (Str × Addr)) (fp : List Addr), SE (X.blk s H scope (compEnvC scope cl C X.env) fp) elt me) (hf : ∀ x, foldedSetIterable iter X.env x = pure x := by intro _; rfl) :
    SS X (.Assign [.Name y py] (.ListComp elt [⟨tg, iter, ifs, 0⟩] scope pos) spos) (mSet i (mLc mi (own.map (·.2)) g mt me)) :=
  PS.impI (ps_setLc (g := rdG X.K is g) (tt := rdT X.K mt) (te := rdE X.K me) hc hN hy hyl hsw hi ok hg ht he hf) fun D σ H hl h => by
    obtain ⟨C, fz, ρ, sto, out, ρ', sto', F, e, k⟩ := h
    have : rdE X.K (mLc mi (own.map (·.2)) g mt me) σ H (fun x H1 => gName i x σ H1 D.nx) := by
      unfold mSet at e
      split at e
      · rename_i r s1 e1
        split at e
        · rename_i c ec
          cases e
          exact ⟨C, fz, ρ, sto, r, _, F, e1, fun v fz1 H1 st1 l1 i1 => k fz1 _ H1 (F.give st1 l1 i1 ec (lt_of_slot hy hl)) st1.sts⟩
        · cases e
      · cases e
    exact rd_lc hs this
end
end Dh
namespace Dh
open PySem PySem.Spec L2 RZ
section
variable {K : PySem.W.Frag} {sp : Option Addr} {fz fz1 : Fz} {H H1 : Hp} {sto : Sto}
theorem Goes.of {J : It} {n : Nat} {G : Hp → Prop} {Y : Nat → Hp → V → Hp → Prop} {xs : List PyData} (w : Walk J n G Y) (hn : xs.length = n) (hg : ∀ fz1 H1 sto, Sts sp fz H fz1 H1 → Bs sp fz1 H1 sto → G H1)
    (hy : ∀ (i : Nat) (x : PyData) fz1 H1 sto v H2, xs[i]? = some x → Sts sp fz H fz1 H1 → Bs sp fz1 H1 sto → Y i H1 v H2 → Stp sp fz1 H1 fz1 H2 ∧ SpL sp H2 sto ∧ Im K fz1 H2 v x) : Goes K sp fz H J xs where
  go := fun i fz1 H1 sto hi s B => w.goes i H1 (by rw [← hn]; exact hi) (hg fz1 H1 sto s B)
  stop := fun fz1 H1 sto s B => by rw [hn]; exact w.stops H1 (hg fz1 H1 sto s B)
  yld := fun i x fz1 H1 sto v H2 hx s B y => hy i x fz1 H1 sto v H2 hx s B (w.yields i H1 v H2 (by rw [← hn]; exact (List.getElem?_eq_some_iff.mp hx).1) (hg fz1 H1 sto s B) y)
theorem goes_list {a : Addr} {vs : List V} {xs : List PyData} (h : FzL K fz H a vs) (im : ImA K fz H vs xs) (B0 : Bs sp fz H sto) : Goes K sp fz H (Itl K a) xs :=
  .of (walk_list (xs := vs)) im.length.symm (fun fz1 H1 sto s B => (h.sts s B0).sq) fun i x fz1 H1 sto v H2 hx s B y => by
    obtain ⟨rfl, e⟩ := y
    obtain ⟨w, hw, iw⟩ := im.at i x hx
    rw [e] at hw; cases hw
    exact ⟨.refl, B.spl, iw.sts s B0⟩
theorem goes_tup {a : Addr} {vs : List V} {xs : List PyData} (h : SqT K H a vs) (im : ImA K fz H vs xs) (B0 : Bs sp fz H sto) : Goes K sp fz H (Itt K a) xs :=
  .of (walk_tup (xs := vs)) im.length.symm (fun fz1 H1 sto s B => SqT.sts s B0 h) fun i x fz1 H1 sto v H2 hx s B y => by
    obtain ⟨rfl, e⟩ := y
    obtain ⟨w, hw, iw⟩ := im.at i x hx
    rw [e] at hw; cases hw
    exact ⟨.refl, B.spl, iw.sts s B0⟩
def rangeL (lo : Int) (n : Nat) : List PyData := (List.range n).map fun i => PyData.int (lo + (i : Nat))
theorem goes_range {lo : Int} {n : Nat} : Goes K sp fz H (Itr lo n) (rangeL lo n) :=
  .of walk_range (by unfold rangeL; rw [List.length_map, List.length_range]) (fun _ _ _ _ _ => trivial) fun i x fz1 H1 sto v H2 hx s B y => by
    obtain ⟨rfl, rfl⟩ := y
    unfold rangeL at hx
    rw [List.getElem?_map] at hx
    cases q : (List.range n)[i]? with
    | none => rw [q] at hx; cases hx
    | some j =>
      rw [q] at hx
      cases hx
      have : j = i := by
        obtain ⟨h1, h2⟩ := List.getElem?_eq_some_iff.mp q
        rw [List.getElem_range] at h2
        exact h2.symm
      subst this
      exact ⟨.refl, B.spl, .int _⟩
def pairs (xs ys : List PyData) : List PyData := (xs.zip ys).map fun p => PyData.tuple [p.1, p.2]
theorem pairs_at {xs ys : List PyData} {i : Nat} {z : PyData} (h : (pairs xs ys)[i]? = some z) : ∃ x y, xs[i]? = some x ∧ ys[i]? = some y ∧ z = .tuple [x, y] := by
  unfold pairs at h
  rw [List.getElem?_map] at h
  cases q : (xs.zip ys)[i]? with
  | none => rw [q] at h; cases h
  | some p =>
    rw [q] at h; cases h
    rw [List.getElem?_zip_eq_some] at q
    exact ⟨p.1, p.2, q.1, q.2, rfl⟩
/-- a new pair -/
theorem pair_new {H2 : Hp} {v w : V} {x y : PyData} {T : Addr} (B : Bs sp fz H sto) (i1 : Im K fz H v x) (i2 : Im K fz H w y) (hT : H T = none) (e : H2 = upd H T (.tup [v, w])) : Stp sp fz H fz H2 ∧ SpL sp H2 sto ∧ Im K fz H2 (.ref T) (.tuple [x, y]) := by
  subst e
  exact new_tup B (.cons i1 (.cons i2 .nil)) hT
end
section
variable {X : Cx} {tg l : Expr} {ml : Mx} {pos : Pos}
theorem pi_seq {tl : TE} (hl : PE X l tl) : PI X tg l (fun σ H R => tl σ H fun x H1 => ∃ a, x = .ref a ∧ (((∃ xs, SqL X.K H1 a xs) ∧ R (Itl X.K a) H1) ∨ ((∃ xs, SqT X.K H1 a xs) ∧ R (Itt X.K a) H1))) := ⟨fun pins s σ H R I h => by
  refine thn (hl.run pins s σ H _ I h) ?_
  rintro v s1 ⟨x, H1, I1, r1, a, rfl, q⟩
  cases r1
  have fr : ∀ b ∈ [s1.heap.objs.size], FpOk X pins H1 b := fun b hb => by
    rw [List.mem_singleton] at hb
    subst hb
    exact I1.fpOk (Nat.le_refl _) (I1.hok.fresh (Nat.le_refl _))
  rcases q with ⟨⟨xs, hq⟩, q⟩ | ⟨⟨xs, hq⟩, q⟩
  · obtain ⟨its, _, p, _⟩ := I1.list hq
    exact wpAny_pyIter_list p.isList ⟨_, _, _, _, H1, rfl, I1.kept (t' := s1.toks) (fun b o e => Heap.get?_push_of_some _ e), turn_list a _, ⟨_, Heap.get?_push_size _ rfl, rfl, rfl⟩, fr, q⟩
  · obtain ⟨its, _, p, _⟩ := I1.tuple hq
    exact wpAny_pyIter_tuple (show s1.heap.IsTuple a its.toArray from p) ⟨_, _, _, _, H1, rfl, I1.kept (t' := s1.toks) (fun b o e => Heap.get?_push_of_some _ e), turn_tuple a _, ⟨_, Heap.get?_push_size _ rfl, rfl, rfl⟩, fr, q⟩⟩
/-- the items of a list that stays, of one just made, of a tuple -/
def itemsOf : R → Option (List PyData)
  | .d (.list xs) => some xs
  | .d (.tuple xs) => some xs
  | .f xs => some xs
  | _ => none
def mSeqI (a : Mx) : Mi := bnd a fun x _ => ret (itemsOf x)
theorem si_seq (hl : SE X l ml) : SI X tg l (mSeqI ml) := PI.imp (pi_seq hl) fun σ H R h => by
  obtain ⟨C, fz, ρ, sto, xs, sto', F, e, k⟩ := h
  obtain ⟨x, s1, ea, e1⟩ := bnd_some e
  obtain ⟨ef, rfl⟩ := ret_some e1
  clear e e1
  refine ⟨C, fz, ρ, sto, x, _, F, ea, fun v fz1 H1 st1 l1 i1 => ?_⟩
  have B1 := F.bs.step st1 l1
  unfold itemsOf at ef
  split at ef
  · cases ef
    cases i1 with
    | lst h im => exact ⟨_, rfl, .inl ⟨⟨_, h.sq⟩, k _ fz1 H1 st1 l1 (goes_list h im B1)⟩⟩
  · cases ef
    cases i1 with
    | tup h im => exact ⟨_, rfl, .inr ⟨⟨_, h.sq⟩, k _ fz1 H1 st1 l1 (goes_tup h.sq im B1)⟩⟩
  · cases ef
    obtain ⟨a, vs, rfl, h1, h2, h3, h4, h5⟩ := i1
    have st2 := st1.freeze h5 h4 h1
    exact ⟨a, rfl, .inl ⟨⟨vs, .inl (.inl h1)⟩, k _ _ H1 st2 l1 (goes_list (.inl ⟨h1, .inr rfl⟩) (h2.fzm fun b q => .inl q) (F.bs.step st2 l1))⟩⟩
  · cases ef
def range1 : List R → Option (List PyData)
  | [.d (.int j)] => if -(2 ^ 62) ≤ j ∧ j < 2 ^ 62 then some (rangeL 0 j.toNat) else none
  | _ => none
def range2 : List R → Option (List PyData)
  | [.d (.int i), .d (.int j)] => if -(2 ^ 62) ≤ i ∧ i < 2 ^ 62 ∧ -(2 ^ 62) ≤ j ∧ j < 2 ^ 62 then some (rangeL i (j - i).toNat) else none
  | _ => none
def mArgI (f : List R → Option (List PyData)) (a : Ma) : Mi := bnd a fun x _ => ret (f x)
variable {a b : Expr} {m : Ma} {p : Pos}
theorem si_range1 (ha : SA X [a] m) (hm : X.mg "range" = none) (hg : Gl X "range" := by rfl) (hs : starEach [a] X.env = [(false, eval a X.env)] := by rfl) : SI X tg (.Call (.Name "range" p) [a] [] pos) (mArgI range1 m) := PI.imp (pi_range1 hg hm ha hs) fun σ H R h => by
  obtain ⟨C, fz, ρ, sto, xs, sto', F, e, k⟩ := h
  obtain ⟨x, s1, ea, e1⟩ := bnd_some e
  obtain ⟨ef, rfl⟩ := ret_some e1
  clear e e1
  refine ⟨C, fz, ρ, sto, x, _, F, ea, fun v fz1 H1 st1 l1 i1 => ?_⟩
  unfold range1 at ef
  split at ef
  · split at ef
    · rename_i hz
      cases ef
      cases i1 with
      | cons i1 t =>
        cases t; cases i1
        exact ⟨_, rfl, hz.1, hz.2, k _ fz1 H1 st1 l1 goes_range⟩
    · cases ef
  · cases ef
theorem si_range2 (ha : SA X [a, b] m) (hm : X.mg "range" = none) (hg : Gl X "range" := by rfl) (hs : starEach [a, b] X.env = [(false, eval a X.env), (false, eval b X.env)] := by rfl) (hs2 : starEach [b] X.env = [(false, eval b X.env)] := by rfl) : SI X tg (.Call (.Name "range" p) [a, b] [] pos) (mArgI range2 m) := PI.imp (pi_range2 hg hm ha hs hs2) fun σ H R h => by
  obtain ⟨C, fz, ρ, sto, xs, sto', F, e, k⟩ := h
  obtain ⟨x, s1, ea, e1⟩ := bnd_some e
  obtain ⟨ef, rfl⟩ := ret_some e1
  clear e e1
  refine ⟨C, fz, ρ, sto, x, _, F, ea, fun v fz1 H1 st1 l1 i1 => ?_⟩
  unfold range2 at ef
  split at ef
  · split at ef
    · rename_i hz
      cases ef
      cases i1 with
      | cons i1 t =>
        cases t with
        | cons i2 t =>
          cases t; cases i1; cases i2
          exact ⟨_, _, rfl, hz, k _ fz1 H1 st1 l1 goes_range⟩
    · cases ef
  · cases ef
end
end Dh
namespace Dh
open PySem PySem.Spec L2 PySem.W
/-- a def's promise, called where no repr is under way -/
structure FnG (P : Program) (w : World) (K : PySem.W.Frag) (mg : Str → Option Value) (base : Heap) (k : Nat) (f : Addr) (fd : FuncData) (ps : List Str) (sp : Sp) : Prop where
  len : ∀ vs H Q E, sp vs H Q E → vs.length = ps.length
  run : ∀ (A : Around) (outer : List Env) (s : Shared) (H : Hp) (args : Args) (us : List Value) (vs : List V) (Q : VK), Room k A → A.guards = some [] → Env0 P w K mg base A outer s H → BindsTo s fd args (ps.zip us) → Vals vs us → sp vs H Q E0 →
    codeAny (model P w) A (.call (.ref f) args) (CR CX0 outer P w H s Q E0) s
theorem FnG.mono {P : Program} {w : World} {K : PySem.W.Frag} {mg : Str → Option Value} {base : Heap} {j k : Nat} {f : Addr} {fd : FuncData} {ps : List Str} {sp : Sp} (F : FnG P w K mg base j f fd ps sp) (h : j ≤ k) : FnG P w K mg base k f fd ps sp :=
  ⟨F.len, fun A outer s H args us vs Q hr => F.run A outer s H args us vs Q (hr.mono h)⟩
def ArgOk (K : PySem.W.Frag) (fz : Fz) (sp : Option Addr) (H : Hp) (v : V) : Cl → Prop
  | .d x => Im K fz H v x
  | .s => IsS sp v
  | .o _ => False
  | .m _ => False
abbrev Fx := List Cl → Sto → Option (R × Sto)
/-- the promise of a def that computes g -/
def spOf (K : PySem.W.Frag) (n : Nat) (g : Fx) : Sp := fun vs H Q _ => ∃ (sp : Option Addr) (fz : Fz) (cs : List Cl) (sto : Sto) (r : R) (sto' : Sto), cs.length = n ∧ Paired (ArgOk K fz sp H) vs cs ∧ Bs sp fz H sto ∧ g cs sto = some (r, sto') ∧
  ∀ v fz' H', Stp sp fz H fz' H' → SpL sp H' sto' → ImR K sp H fz' H' v r → Q v H'
/-- a body as a function of its arguments; n slots -/
def run (n : Nat) (m : Ms) : Fx := fun cs s => match m (cs.map some ++ List.replicate (n - cs.length) none) s with
  | some (.rt r, _, s') => some (r, s')
  | some (.nx, _, s') => some (.d .none, s')
  | _ => none
theorem start_cells (N : List Str) (cs : List Cl) (vs : List V) (h : vs.length = cs.length) : (cs.map some ++ List.replicate (N.length - cs.length) (none : Option Cl)).length = (L2.start N vs).length := by
  unfold L2.start
  simp only [List.length_append, List.length_map, List.length_replicate, h]
theorem pLen {α β : Type} {R : α → β → Prop} : ∀ {l₁ : List α} {l₂ : List β}, Paired R l₁ l₂ → l₁.length = l₂.length
  | _, _, .nil => rfl
  | _, _, .cons _ t => by rw [List.length_cons, List.length_cons, pLen t]
theorem pAt {α β : Type} {R : α → β → Prop} : ∀ {l₁ : List α} {l₂ : List β}, Paired R l₁ l₂ → ∀ (i : Nat) (b : β), l₂[i]? = some b → ∃ a, l₁[i]? = some a ∧ R a b
  | _, _, .nil, i, b, h => by simp at h
  | _, _, .cons r t, 0, b, h => by simp at h; subst h; exact ⟨_, rfl, r⟩
  | _, _, .cons r t, i + 1, b, h => by
    simp only [List.getElem?_cons_succ] at h ⊢
    exact pAt t i b h
section
variable {P : Program} {w : World} {K : PySem.W.Frag} {mg : Str → Option Value} {base : Heap}
/-- the frame at a def's entry -/
theorem fm_start {N : List Str} {sp : Option Addr} {fz : Fz} {cs : List Cl} {sto : Sto} {vs : List V} {H : Hp} (a : Paired (ArgOk K fz sp H) vs cs) (B : Bs sp fz H sto) : Fm K ⟨sp, fz, H⟩ fz (cs.map some ++ List.replicate (N.length - cs.length) none) sto (L2.start N vs) H := by
  have key : ∀ (i : Nat) (c : Cl), (cs.map some ++ List.replicate (N.length - cs.length) (none : Option Cl))[i]? = some (some c) → cs[i]? = some c ∧ ∃ v, (L2.start N vs)[i]? = some (some v) ∧ ArgOk K fz sp H v c := by
    intro i c h
    by_cases hi : i < cs.length
    · rw [List.getElem?_append_left (by rw [List.length_map]; exact hi), List.getElem?_map] at h
      cases q : cs[i]? with
      | none => rw [q] at h; cases h
      | some d =>
        rw [q] at h
        cases h
        obtain ⟨v, hv, r⟩ := pAt a i c q
        refine ⟨rfl, v, ?_, r⟩
        unfold L2.start
        rw [List.getElem?_append_left (by rw [List.length_map, (pLen a)]; exact hi), List.getElem?_map, hv]
        rfl
    · rw [List.getElem?_append_right (by rw [List.length_map]; omega), List.getElem?_replicate] at h
      split at h <;> cases h
  refine ⟨start_cells N cs vs (pLen a), .refl, B, fun i c h => ?_, fun i j xs ys b hij h1 h2 => ?_⟩
  · obtain ⟨_, v, hv, r⟩ := key i c h
    cases c with
    | d x => exact ⟨v, hv, r⟩
    | o xs => exact False.elim r
    | s => obtain ⟨a, ea, rfl⟩ := (show IsS sp v from r); exact ⟨a, ea, hv⟩
    | m acc => exact False.elim r
  · obtain ⟨_, v, hv, r⟩ := key i _ h1
    exact False.elim r
/-- A DEF: its body as the function m -/
theorem fnG_of {x qual : Str} {st : Stmt} {f : Addr} {fd : FuncData} {N ps : List Str} {k : Nat} {m : Ms} (F : Fun K x qual st f fd) (S : FnScope N ps (defScope st))
    (hb : ∀ (cdv : Value) (A : Around) (outer : List Env) (s : Shared) (H : Hp) (E : XK), Room k (A.deeper (PyProof.Rows.envOfC qual (defScope st) s.heap.objs.size f cdv)) → A.guards = some [] → SL (cxOf CX0 P w K mg base N qual (defScope st) f cdv A outer s H E).nox (defBody st) m) :
    FnG P w K mg base (k + 1) f fd ps (spOf K ps.length (run N.length m)) := by
  obtain ⟨oc, od, kV, doc, pm, an, cdv, ct, osl, rfl, lk, hcd⟩ := F.ex
  have hlen : ∀ vs H Q E, spOf K ps.length (run N.length m) vs H Q E → vs.length = ps.length := by
    rintro vs H Q E ⟨sp, fz, cs, sto, r, sto', hl, a, _⟩
    rw [(pLen a), hl]
  refine ⟨hlen, fun A outer s H args us vs Q hr hg e0 bd rv hsp => ?_⟩
  have hl : vs.length = ps.length := hlen vs H Q E0 hsp
  have hK : K.In s.heap := e0.mod.kin.keeps fun b o q => (e0.bs b o q).1
  have hkind : ∀ y ∈ ps.zip us, (defScope st).names.lookup y.1 = some .local ∨ ((defScope st).names.lookup y.1 = some .cell ∧ ((cellsFrom (s.heap.objs.size + 1) (defScope st).names []).lookup y.1).isSome = true) := by
    rintro ⟨n, v⟩ hy
    rcases S.par n (List.of_mem_zip hy).1 with q | q
    · left; exact q
    · right; exact ⟨q, PySem.W.cellsFrom_some _ _ _ (.inl q)⟩
  have lim := e0.mod.nolimit.keeps fun b o q => (e0.bs b o q).1
  refine codeAny_call_function hr.depth (hK _ _ lk) rfl S.co S.gen rfl (PySem.W.codeRec_of hK hcd) (bd _ _ _ _ (wpAny_newFunctionEnv_cells S.kind hkind ?_))
  rintro env rfl s1 hx
  refine ⟨lim.keeps hx.toInCall.keep, codeAny_func ?_⟩
  obtain ⟨sp, fz, cs, sto, r, sto', hc, a, B, e, q⟩ := hsp
  have I0 := inv_start (CX := CX0) (P := P) (K := K) (mg := mg) (base := base) (E := E0) S hr.hd e0 hl rv hx
  have hbody := (hb cdv A outer s H E0 (hr.deeper _) hg).nox
  have F0 : Fm K ⟨sp, fz, H⟩ fz (cs.map some ++ List.replicate (N.length - cs.length) none) sto (L2.start N vs) H := fm_start a B
  have hrd : rdS K m { nx := fun _ H' => Q .non H', rt := Q } (L2.start N vs) H := by
    unfold run at e
    split at e
    · rename_i r' ρ' s' em
      cases e
      exact ⟨⟨sp, fz, H⟩, fz, _, sto, .rt r, ρ', sto', F0, em, fun fz' σ' H' F' S' v i => q v fz' H' F'.st F'.bs.spl i⟩
    · rename_i ρ' s' em
      cases e
      exact ⟨⟨sp, fz, H⟩, fz, _, sto, .nx, ρ', sto', F0, em, fun fz' σ' H' F' S' => q .non fz' H' F'.st F'.bs.spl .non⟩
    · cases e
  refine wpAny_mono (hbody.run [] s1 (L2.start N vs) H _ I0 hrd) (fun fl s' hs => ?_) fun _ _ z => z
  cases fl with
  | ret u =>
    obtain ⟨v, σ', H', J, rv', qv⟩ := hs
    exact ⟨v, H', J.os, J.bare, J.base, J.hok, rv', qv⟩
  | next =>
    obtain ⟨σ', H', J, qv⟩ := hs
    exact ⟨.non, H', J.os, J.bare, J.base, J.hok, rfl, qv⟩
  | brk => obtain ⟨_, _, _, z⟩ := hs; exact z.elim
  | cont => obtain ⟨_, _, _, z⟩ := hs; exact z.elim
end
def toArg : R → Option Cl
  | .d x => some (.d x)
  | .f xs => some (.d (.list xs))
  | .s => some .s
  | _ => none
def toArgs : List R → Option (List Cl)
  | [] => some []
  | r :: rs => match toArg r, toArgs rs with
    | some x, some xs => some (x :: xs)
    | _, _ => none
/-- a call; π: where each parameter's value stands among the written ones -/
def mCall (g : Fx) (a : Ma) : Mx := bnd a fun rs _ s => match toArgs rs with
  | some cs => g cs s
  | none => none
section
variable {K : PySem.W.Frag} {sp : Option Addr} {fz fz1 : Fz} {H H1 : Hp} {sto : Sto}
theorem ArgOk.fzm {v : V} {c : Cl} (h : ArgOk K fz sp H v c) (g : ∀ a, fz a → fz1 a) : ArgOk K fz1 sp H v c := by
  cases c with
  | d x => exact Im.fzm g h
  | o x => exact h
  | s => exact h
  | m x => exact h
theorem ImRs.args : ∀ {vs : List V} {rs : List R} {cs : List Cl} {fz1 : Fz}, ImRs K sp H fz1 H1 vs rs → toArgs rs = some cs → ∀ fzA : Fz, Stp sp fz H fzA H1 → Bs sp fzA H1 sto → (∀ a, fz1 a → fzA a) →
    ∃ fz2 : Fz, Stp sp fz H fz2 H1 ∧ Bs sp fz2 H1 sto ∧ (∀ a, fzA a → fz2 a) ∧ Paired (ArgOk K fz2 sp H1) vs cs
  | _, _, _, _, .nil, e, fzA, sA, BA, g => by
    cases e
    exact ⟨fzA, sA, BA, fun _ h => h, .nil⟩
  | _, _, _, fz1, .cons (a := v) (b := r) h t, e, fzA, sA, BA, g => by
    unfold toArgs at e
    split at e
    · rename_i x xs e1 e2
      cases e
      have : ∃ fzB : Fz, Stp sp fz H fzB H1 ∧ Bs sp fzB H1 sto ∧ (∀ a, fzA a → fzB a) ∧ ArgOk K fzB sp H1 v x := by
        unfold toArg at e1
        split at e1
        · cases e1
          exact ⟨fzA, sA, BA, fun _ h => h, Im.fzm g h⟩
        · cases e1
          obtain ⟨a, vs, rfl, h1, h2, h3, h4, h5⟩ := h
          refine ⟨_, sA.freeze h5 h4 h1, ⟨BA.spl, fun c ec q => ?_, fun b q z => ?_⟩, fun b q => .inl q, .lst (.inl ⟨h1, .inr rfl⟩) (h2.fzm fun b q => .inl (g b q))⟩
          · rcases q with q | q
            · exact BA.nsp c ec q
            · exact h4 (by subst q; exact ec.symm)
          · rcases q with q | q
            · exact BA.trk b q z
            · subst q; rw [h1] at z; cases z
        · cases e1
          exact ⟨fzA, sA, BA, fun _ h => h, h⟩
        · cases e1
      obtain ⟨fzB, sB, BB, gB, iB⟩ := this
      obtain ⟨fz2, s2, B2, g2, i2⟩ := ImRs.args t e2 fzB sB BB fun a q => gB a (g a q)
      exact ⟨fz2, s2, B2, fun a q => g2 a (gB a q), .cons (iB.fzm g2) i2⟩
    · cases e
end
section
variable {X : Cx} {k : Nat} {f : Addr} {fd : FuncData} {ps : List Str} {x : Str} {p pos : Pos} {e : Expr} {es : List Expr} {m : Ma} {g : Fx}
theorem run_fnG {sp : Sp} {pins : List (Addr × Obj)} {σ : L2.St} {H : Hp} {s : Shared} {Q : VK} {us : List Value} {vs : List V} {args : Args} (F : FnG X.prog X.w X.K X.mg X.base k f fd ps sp) (hr : Room k X.A) (hg : X.A.guards = some [])
    (I : Inv X pins σ H s) (hb : BindsTo s fd args (ps.zip us)) (r : Vals vs us) (h : sp vs H Q E0) : codeAny (model X.prog X.w) X.A (.call (.ref f) args) (fun r s' => match r with | .ok (.ret u) => EP X pins σ Q u s' | .ok _ => False | .error e => X.xe e s') s := by
  refine codeAny_mono (F.run X.A X.stack s H args us vs Q hr hg I.env0 hb r h) fun res s' hq => ?_
  match res, hq with
  | .error e, hq => exact False.elim hq
  | .ok (.ret u), hq => exact I.after hq
  | .ok .next, hq => exact False.elim hq
  | .ok .brk, hq => exact False.elim hq
  | .ok .cont, hq => exact False.elim hq
def tCallG (sp : Sp) (t : TA) : TE := fun σ H Q => t σ H fun vs H1 => sp vs H1 Q E0
theorem pe_callG {sp : Sp} {t : TA} (F : FnG X.prog X.w X.K X.mg X.base k f fd ps sp) (hr : Room k X.A) (hgd : X.A.guards = some []) (hm : X.mg x = some (.ref f)) (hk : PySem.W.keepIn X.K (.ref f) = true) (hb : Binds X.K fd ps []) (ha : PA X (e :: es) t) (hg : Gl X x)
    (hdb : (x == ("__debug__" : Str)) = false := by decide) (he : starEach (e :: es) X.env = (false, eval e X.env) :: starEach es X.env := by rfl) (hpl : (backTo pos (starEach es X.env)).any (·.1) = false := by rfl) :
    PE X (.Call (.Name x p) (e :: es) [] pos) (tCallG sp t) := ⟨fun pins s σ H Q I h => by
  refine wpAny_Call_Name_kw (ld_glob I hg hm (PySem.W.callWith_K (h₀ := X.base) I.ok.mod.kin hk (thn (ha.run pos pins s σ H _ I h) ?_) he hpl) hdb)
  rintro us s1 ⟨vs, H1, I1, r, q⟩
  have hl : (us ++ []).length = ps.length := by rw [List.append_nil, ← r.length]; exact F.len _ _ _ _ q
  have b := hb s1 us I1.kIn hl
  rw [List.append_nil] at b
  refine ⟨I1.kIn, wpAny_call (codeAny_mono (run_fnG F hr hgd I1 b r q) fun res s' hq => ?_)⟩
  match res, hq with
  | .error e, hq => exact hq
  | .ok (.ret u), hq => exact hq
  | .ok .next, hq => exact False.elim hq
  | .ok .brk, hq => exact False.elim hq
  | .ok .cont, hq => exact False.elim hq⟩
theorem rd_call {K : PySem.W.Frag} {n : Nat} {σ : L2.St} {H : Hp} {Q : VK} (hn : ∀ cs s r, g cs s = some r → cs.length = n) (h : rdE K (mCall g m) σ H Q) : tCallG (spOf K n g) (rdA K m) σ H Q := by
  obtain ⟨C, fz, ρ, sto, z, sto', F, e, k⟩ := h
  obtain ⟨rs, s1, ea, e1⟩ := bnd_some e
  clear e
  split at e1
  · rename_i cs ec
    refine ⟨C, fz, ρ, sto, rs, s1, F, ea, fun vs fz1 H1 st1 l1 i1 => ?_⟩
    obtain ⟨fz2, st2, B2, _, a⟩ := ImRs.args i1 ec fz1 st1 (F.bs.step st1 l1) fun _ h => h
    exact ⟨C.sp, fz2, cs, s1, z, sto', hn cs s1 _ e1, a, B2, e1, fun v fz3 H3 st3 l3 i3 => k v fz3 H3 (st2.trans st3) l3 (i3.early st2)⟩
  · cases e1
/-- a def of n parameters -/
def run' (n l : Nat) (m : Ms) : Fx := fun cs s => if cs.length = n then run l m cs s else none
theorem run'_len {n l : Nat} {m : Ms} : ∀ cs s r, run' n l m cs s = some r → cs.length = n := fun cs s r h => by
  unfold run' at h
  split at h
  · assumption
  · cases h
theorem spOf_run' {K : PySem.W.Frag} {n l : Nat} {m : Ms} {vs : List V} {H : Hp} {Q : VK} {E : XK} (h : spOf K n (run' n l m) vs H Q E) : spOf K n (run l m) vs H Q E := by
  obtain ⟨sp, fz, cs, sto, r, sto', hl, a, B, e, q⟩ := h
  unfold run' at e
  rw [if_pos hl] at e
  exact ⟨sp, fz, cs, sto, r, sto', hl, a, B, e, q⟩
theorem FnG.imp {P : Program} {w : World} {K : PySem.W.Frag} {mg : Str → Option Value} {base : Heap} {j : Nat} {f : Addr} {fd : FuncData} {ps : List Str} {sp sp' : Sp} (F : FnG P w K mg base j f fd ps sp) (h : ∀ vs H Q E, sp' vs H Q E → sp vs H Q E) : FnG P w K mg base j f fd ps sp' :=
  ⟨fun vs H Q E q => F.len vs H Q E (h _ _ _ _ q), fun A outer s H args us vs Q hr hg e0 bd rv q => F.run A outer s H args us vs Q hr hg e0 bd rv (h _ _ _ _ q)⟩
theorem se_call {n l : Nat} {mb : Ms} (F : FnG X.prog X.w X.K X.mg X.base k f fd ps (spOf X.K n (run' n l mb))) (hr : Room k X.A) (hgd : X.A.guards = some []) (hm : X.mg x = some (.ref f)) (hk : PySem.W.keepIn X.K (.ref f) = true) (hb : Binds X.K fd ps []) (ha : SA X (e :: es) m) (hg : Gl X x := by rfl)
    (hdb : (x == ("__debug__" : Str)) = false := by decide) (he : starEach (e :: es) X.env = (false, eval e X.env) :: starEach es X.env := by rfl) (hpl : (backTo pos (starEach es X.env)).any (·.1) = false := by rfl) :
    SE X (.Call (.Name x p) (e :: es) [] pos) (mCall (run' n l mb) m) := PE.imp (pe_callG F hr hgd hm hk hb ha hg hdb he hpl) fun _ _ _ h => rd_call run'_len h
end
end Dh
namespace Dh
open PySem PySem.Spec L2
section
variable {X : Cx} {x : Str} {p pos : Pos} {e : Expr} {es : List Expr} {m : Ma} {id T : String} {r : List V → Hp → VK → Prop} {f : List R → Option R}
theorem se_bi (hc : CallR X (.builtin id) r) (hf : OkA X.K r f) (ha : SA X (e :: es) m) (hm : X.mg x = none) (hv : bootBuiltins x = some (.builtin id)) (hg : Gl X x := by rfl) (hn : x ≠ "__name__" := by decide) (hdb : (x == ("__debug__" : Str)) = false := by decide)
    (he : starEach (e :: es) X.env = (false, eval e X.env) :: starEach es X.env := by rfl) (hpl : (backTo pos (starEach es X.env)).any (·.1) = false := by rfl) : SE X (.Call (.Name x p) (e :: es) [] pos) (mA f m) :=
  PE.imp (pe_callB hc hg hm hv ha hn hdb he hpl) fun _ _ _ h => rd_args hf h
theorem se_ty (hc : CallR X (.type T) r) (hf : OkA X.K r f) (ha : SA X (e :: es) m) (hm : X.mg x = none) (hv : bootBuiltins x = some (.type T)) (hg : Gl X x := by rfl) (hn : x ≠ "__name__" := by decide) (hdb : (x == ("__debug__" : Str)) = false := by decide)
    (he : starEach (e :: es) X.env = (false, eval e X.env) :: starEach es X.env := by rfl) (hpl : (backTo pos (starEach es X.env)).any (·.1) = false := by rfl) : SE X (.Call (.Name x p) (e :: es) [] pos) (mA f m) :=
  PE.imp (pe_callTy hc hg hm hv ha hn hdb he hpl) fun _ _ _ h => rd_args hf h
theorem se_bf (hc : CallR X (.builtin id) r) (hf : OkA X.K r f) (ha : SA X (e :: es) m) (hm : X.mg x = some (.builtin id)) (hg : Gl X x := by rfl) (hdb : (x == ("__debug__" : Str)) = false := by decide)
    (he : starEach (e :: es) X.env = (false, eval e X.env) :: starEach es X.env := by rfl) (hpl : (backTo pos (starEach es X.env)).any (·.1) = false := by rfl) : SE X (.Call (.Name x p) (e :: es) [] pos) (mA f m) :=
  PE.imp (pe_callBfun hc hg hm ha hdb he hpl) fun _ _ _ h => rd_args hf h
end
def fLen : List R → Option R
  | [x] => (rdQ x).map fun xs => .d (.int xs.length)
  | _ => none
def fTupOf : List R → Option R
  | [.d (.tuple xs)] => some (.d (.tuple xs))
  | [x] => (rdL x).map fun xs => .d (.tuple xs)
  | _ => none
def fLstOf : List R → Option R
  | [x] => (rdQ x).map fun xs => .f xs
  | _ => none
def boolsOf : List PyData → Option (List Bool)
  | [] => some []
  | .bool b :: r => (boolsOf r).map (b :: ·)
  | _ => none
def intsOf : List PyData → Option (List Int)
  | [] => some []
  | .int b :: r => (intsOf r).map (b :: ·)
  | _ => none
def fAll : List R → Option R
  | [x] => match rdL x with | some xs => (boolsOf xs).map fun bs => .d (.bool (bs.all id)) | none => none
  | _ => none
def fAny : List R → Option R
  | [x] => match rdL x with | some xs => (boolsOf xs).map fun bs => .d (.bool (bs.any id)) | none => none
  | _ => none
def fSum : List R → Option R
  | [x] => match rdL x with | some xs => (intsOf xs).map fun ns => .d (.int ns.sum) | none => none
  | _ => none
def fAbs : List R → Option R
  | [.d (.int i)] => some (.d (.int (if i < 0 then -i else i)))
  | _ => none
def fInt : List R → Option R
  | [.d (.int i)] => some (.d (.int i))
  | [.d (.bool k)] => some (.d (.int (if k then 1 else 0)))
  | _ => none
def fGcd : List R → Option R
  | [.d (.int i), .d (.int j)] => some (.d (.int ((Nat.gcd i.natAbs j.natAbs : Nat) : Int)))
  | _ => none
def fDivmod : List R → Option R
  | [.d (.int i), .d (.int j)] => if 0 < j ∧ Builtin.divisionGoesByPylong i j = false then some (.d (.tuple [.int (i / j), .int (i % j)])) else none
  | _ => none
def fMax2 : List R → Option R
  | [.d (.int m), .d (.int n)] => some (.d (.int (if n > m then n else m)))
  | _ => none
def fMin2 : List R → Option R
  | [.d (.int m), .d (.int n)] => some (.d (.int (if n < m then n else m)))
  | _ => none
section
variable {K : PySem.W.Frag} {fz : Fz} {H : Hp}
theorem boolsOf_im : ∀ {vs : List V} {xs : List PyData} {bs : List Bool}, ImA K fz H vs xs → boolsOf xs = some bs → vs = bs.map V.bl
  | _, _, _, .nil, e => by cases e; rfl
  | _, d :: ds, _, .cons h t, e => by
    cases d with
    | bool b =>
      simp only [boolsOf] at e
      cases q2 : boolsOf ds with
      | none => rw [q2] at e; cases e
      | some bs => rw [q2] at e; cases e; cases h; rw [boolsOf_im t q2]; rfl
    | _ => simp [boolsOf] at e
theorem intsOf_im : ∀ {vs : List V} {xs : List PyData} {bs : List Int}, ImA K fz H vs xs → intsOf xs = some bs → vs = bs.map V.int
  | _, _, _, .nil, e => by cases e; rfl
  | _, d :: ds, _, .cons h t, e => by
    cases d with
    | int b =>
      simp only [intsOf] at e
      cases q2 : intsOf ds with
      | none => rw [q2] at e; cases e
      | some bs => rw [q2] at e; cases e; cases h; rw [intsOf_im t q2]; rfl
    | _ => simp [intsOf] at e
end
section
variable {X : Cx} {x : Str} {p pos : Pos} {e : Expr} {es : List Expr} {m : Ma}
theorem ok_len : OkA X.K (fun xs H Q => ∃ p ys, xs = [.ref p] ∧ (SqL X.K H p ys ∨ SqT X.K H p ys) ∧ Q (.int ys.length) H) fLen := by
  intro sp fz fzS H H0 sto vs xs z Q s B i e k
  unfold fLen at e
  split at e
  · rename_i r
    cases q : rdQ r with
    | none => rw [q] at e; cases e
    | some ds =>
      rw [q] at e; cases e
      cases i with
      | cons i t =>
        cases t
        obtain ⟨a, ws, rfl, h, im⟩ := i.seq q
        refine ⟨a, ws, rfl, h, k _ fz H s B.spl ?_⟩
        rw [im.length]
        exact .int _
  · cases e
theorem ok_tupOf : OkA X.K (fun xs H Q => ∃ p ys, xs = [.ref p] ∧ ((SqL X.K H p ys ∧ ∀ l, H l = none → Q (.ref l) (upd H l (.tup ys))) ∨ (SqT X.K H p ys ∧ Q (.ref p) H))) fTupOf := by
  intro sp fz fzS H H0 sto vs xs z Q s B i e k
  unfold fTupOf at e
  split at e
  · cases e
    cases i with
    | cons i t =>
      cases t
      cases i with
      | tup h im => exact ⟨_, _, rfl, .inr ⟨h.sq, k _ fz H s B.spl (show Im _ _ _ _ _ from .tup h im)⟩⟩
  · rename_i r _
    cases q : rdL r with
    | none => rw [q] at e; cases e
    | some ds =>
      rw [q] at e; cases e
      cases i with
      | cons i t =>
        cases t
        obtain ⟨a, ws, rfl, h, im⟩ := i.list q
        refine ⟨a, ws, rfl, .inl ⟨h, fun l hl => ?_⟩⟩
        obtain ⟨s3, l3, i3⟩ := new_tup B im hl
        exact k _ fz _ (s.trans s3) l3 i3
  · cases e
theorem ok_lstOf : OkA X.K (fun xs H Q => ∃ p ys, xs = [.ref p] ∧ (SqL X.K H p ys ∨ SqT X.K H p ys) ∧ ∀ l, H l = none → Q (.ref l) (upd H l (.lst ys))) fLstOf := by
  intro sp fz fzS H H0 sto vs xs z Q s B i e k
  unfold fLstOf at e
  split at e
  · rename_i r
    cases q : rdQ r with
    | none => rw [q] at e; cases e
    | some ds =>
      rw [q] at e; cases e
      cases i with
      | cons i t =>
        cases t
        obtain ⟨a, ws, rfl, h, im⟩ := i.seq q
        refine ⟨a, ws, rfl, h, fun l hl => ?_⟩
        obtain ⟨s3, l3, i3⟩ := new_lst B im hl
        exact k _ fz _ (s.trans s3) l3 (i3.early s)
  · cases e
theorem ok_all : OkA X.K (rAll X.K) fAll := by
  intro sp fz fzS H H0 sto vs xs z Q s B i e k
  unfold fAll at e
  split at e
  · rename_i r
    split at e
    · rename_i ds q
      cases q2 : boolsOf ds with
      | none => rw [q2] at e; cases e
      | some bs =>
        rw [q2] at e; cases e
        cases i with
        | cons i t =>
          cases t
          obtain ⟨a, ws, rfl, h, im⟩ := i.list q
          rw [boolsOf_im im q2] at h
          exact ⟨a, bs, rfl, h, k _ fz H s B.spl (.bl _)⟩
    · cases e
  · cases e
theorem ok_any : OkA X.K (rAny X.K) fAny := by
  intro sp fz fzS H H0 sto vs xs z Q s B i e k
  unfold fAny at e
  split at e
  · rename_i r
    split at e
    · rename_i ds q
      cases q2 : boolsOf ds with
      | none => rw [q2] at e; cases e
      | some bs =>
        rw [q2] at e; cases e
        cases i with
        | cons i t =>
          cases t
          obtain ⟨a, ws, rfl, h, im⟩ := i.list q
          rw [boolsOf_im im q2] at h
          exact ⟨a, bs, rfl, h, k _ fz H s B.spl (.bl _)⟩
    · cases e
  · cases e
theorem ok_sum : OkA X.K (rSum X.K) fSum := by
  intro sp fz fzS H H0 sto vs xs z Q s B i e k
  unfold fSum at e
  split at e
  · rename_i r
    split at e
    · rename_i ds q
      cases q2 : intsOf ds with
      | none => rw [q2] at e; cases e
      | some bs =>
        rw [q2] at e; cases e
        cases i with
        | cons i t =>
          cases t
          obtain ⟨a, ws, rfl, h, im⟩ := i.list q
          rw [intsOf_im im q2] at h
          exact ⟨a, bs, rfl, h, k _ fz H s B.spl (.int _)⟩
    · cases e
  · cases e
theorem ok_abs : OkA X.K (fun xs H Q => ∃ i, xs = [.int i] ∧ Q (.int (if i < 0 then -i else i)) H) fAbs := by
  intro sp fz fzS H H0 sto vs xs z Q s B i e k
  unfold fAbs at e
  split at e
  · cases e
    cases i with
    | cons i t => cases t; cases i; exact ⟨_, rfl, k _ fz H s B.spl (.int _)⟩
  · cases e
theorem ok_int : OkA X.K (fun xs H Q => (∃ i, xs = [.int i] ∧ Q (.int i) H) ∨ ∃ k, xs = [.bl k] ∧ Q (.int (if k then 1 else 0)) H) fInt := by
  intro sp fz fzS H H0 sto vs xs z Q s B i e k
  unfold fInt at e
  split at e
  · cases e
    cases i with
    | cons i t => cases t; cases i; exact .inl ⟨_, rfl, k _ fz H s B.spl (.int _)⟩
  · cases e
    cases i with
    | cons i t => cases t; cases i; exact .inr ⟨_, rfl, k _ fz H s B.spl (.int _)⟩
  · cases e
theorem ok_gcd : OkA X.K rGcd fGcd := by
  intro sp fz fzS H H0 sto vs xs z Q s B i e k
  unfold fGcd at e
  split at e
  · cases e
    cases i with
    | cons i t =>
      cases t with
      | cons j t => cases t; cases i; cases j; exact ⟨_, _, rfl, k _ fz H s B.spl (.int _)⟩
  · cases e
theorem ok_max2 : OkA X.K (fun xs H Q => ∃ i j, xs = [.int i, .int j] ∧ Q (.int (if j > i then j else i)) H) fMax2 := by
  intro sp fz fzS H H0 sto vs xs z Q s B i e k
  unfold fMax2 at e
  split at e
  · cases e
    cases i with
    | cons i t =>
      cases t with
      | cons j t => cases t; cases i; cases j; exact ⟨_, _, rfl, k _ fz H s B.spl (.int _)⟩
  · cases e
theorem ok_min2 : OkA X.K (fun xs H Q => ∃ i j, xs = [.int i, .int j] ∧ Q (.int (if j < i then j else i)) H) fMin2 := by
  intro sp fz fzS H H0 sto vs xs z Q s B i e k
  unfold fMin2 at e
  split at e
  · cases e
    cases i with
    | cons i t =>
      cases t with
      | cons j t => cases t; cases i; cases j; exact ⟨_, _, rfl, k _ fz H s B.spl (.int _)⟩
  · cases e
theorem ok_divmod : OkA X.K (fun xs H Q => ∃ i j, xs = [.int i, .int j] ∧ CDivP i j ∧ ∀ p, H p = none → Q (.ref p) (upd H p (.tup [.int (i / j), .int (i % j)]))) fDivmod := by
  intro sp fz fzS H H0 sto vs xs z Q s B i e k
  unfold fDivmod at e
  split at e
  · split at e
    · rename_i hz
      cases e
      cases i with
      | cons i t =>
        cases t with
        | cons j t =>
          cases t; cases i; cases j
          refine ⟨_, _, rfl, hz, fun q hq => ?_⟩
          obtain ⟨s3, l3, i3⟩ := new_tup (K := X.K) B (.cons (.int _) (.cons (.int _) .nil)) hq
          exact k _ fz _ (s.trans s3) l3 i3
    · cases e
  · cases e
theorem se_len (ha : SA X (e :: es) m) (hm : X.mg "len" = none) (hg : Gl X "len" := by rfl) (he : starEach (e :: es) X.env = (false, eval e X.env) :: starEach es X.env := by rfl) (hpl : (backTo pos (starEach es X.env)).any (·.1) = false := by rfl) : SE X (.Call (.Name "len" p) (e :: es) [] pos) (mA fLen m) :=
  se_bi call_len_seq ok_len ha hm PySem.boot_len hg (by decide) (by decide) he hpl
theorem se_all (hc : X.calm = true) (ha : SA X (e :: es) m) (hm : X.mg "all" = none) (hg : Gl X "all" := by rfl) (he : starEach (e :: es) X.env = (false, eval e X.env) :: starEach es X.env := by rfl) (hpl : (backTo pos (starEach es X.env)).any (·.1) = false := by rfl) : SE X (.Call (.Name "all" p) (e :: es) [] pos) (mA fAll m) :=
  se_bi (cr_all hc) ok_all ha hm (by decide +kernel) hg (by decide) (by decide) he hpl
theorem se_any (hc : X.calm = true) (ha : SA X (e :: es) m) (hm : X.mg "any" = none) (hg : Gl X "any" := by rfl) (he : starEach (e :: es) X.env = (false, eval e X.env) :: starEach es X.env := by rfl) (hpl : (backTo pos (starEach es X.env)).any (·.1) = false := by rfl) : SE X (.Call (.Name "any" p) (e :: es) [] pos) (mA fAny m) :=
  se_bi (cr_any hc) ok_any ha hm (by decide +kernel) hg (by decide) (by decide) he hpl
theorem se_sum (hc : X.calm = true) (ha : SA X (e :: es) m) (hm : X.mg "sum" = none) (hg : Gl X "sum" := by rfl) (he : starEach (e :: es) X.env = (false, eval e X.env) :: starEach es X.env := by rfl) (hpl : (backTo pos (starEach es X.env)).any (·.1) = false := by rfl) : SE X (.Call (.Name "sum" p) (e :: es) [] pos) (mA fSum m) :=
  se_bi (cr_sum hc) ok_sum ha hm (by decide +kernel) hg (by decide) (by decide) he hpl
theorem se_abs (ha : SA X (e :: es) m) (hm : X.mg "abs" = none) (hg : Gl X "abs" := by rfl) (he : starEach (e :: es) X.env = (false, eval e X.env) :: starEach es X.env := by rfl) (hpl : (backTo pos (starEach es X.env)).any (·.1) = false := by rfl) : SE X (.Call (.Name "abs" p) (e :: es) [] pos) (mA fAbs m) :=
  se_bi call_abs ok_abs ha hm (by decide +kernel) hg (by decide) (by decide) he hpl
theorem se_divmod (ha : SA X (e :: es) m) (hm : X.mg "divmod" = none) (hg : Gl X "divmod" := by rfl) (he : starEach (e :: es) X.env = (false, eval e X.env) :: starEach es X.env := by rfl) (hpl : (backTo pos (starEach es X.env)).any (·.1) = false := by rfl) : SE X (.Call (.Name "divmod" p) (e :: es) [] pos) (mA fDivmod m) :=
  se_bi call_divmodW ok_divmod ha hm (by decide +kernel) hg (by decide) (by decide) he hpl
theorem se_max2 (hc : X.calm = true) (ha : SA X (e :: es) m) (hm : X.mg "max" = none) (hg : Gl X "max" := by rfl) (he : starEach (e :: es) X.env = (false, eval e X.env) :: starEach es X.env := by rfl) (hpl : (backTo pos (starEach es X.env)).any (·.1) = false := by rfl) : SE X (.Call (.Name "max" p) (e :: es) [] pos) (mA fMax2 m) :=
  se_bi (call_max2 hc) ok_max2 ha hm (by decide +kernel) hg (by decide) (by decide) he hpl
theorem se_min2 (hc : X.calm = true) (ha : SA X (e :: es) m) (hm : X.mg "min" = none) (hg : Gl X "min" := by rfl) (he : starEach (e :: es) X.env = (false, eval e X.env) :: starEach es X.env := by rfl) (hpl : (backTo pos (starEach es X.env)).any (·.1) = false := by rfl) : SE X (.Call (.Name "min" p) (e :: es) [] pos) (mA fMin2 m) :=
  se_bi (call_min2 hc) ok_min2 ha hm (by decide +kernel) hg (by decide) (by decide) he hpl
theorem se_tuple (ha : SA X (e :: es) m) (hm : X.mg "tuple" = none) (hg : Gl X "tuple" := by rfl) (he : starEach (e :: es) X.env = (false, eval e X.env) :: starEach es X.env := by rfl) (hpl : (backTo pos (starEach es X.env)).any (·.1) = false := by rfl) : SE X (.Call (.Name "tuple" p) (e :: es) [] pos) (mA fTupOf m) :=
  se_ty call_tuple_of ok_tupOf ha hm (by decide +kernel) hg (by decide) (by decide) he hpl
theorem se_list (ha : SA X (e :: es) m) (hm : X.mg "list" = none) (hg : Gl X "list" := by rfl) (he : starEach (e :: es) X.env = (false, eval e X.env) :: starEach es X.env := by rfl) (hpl : (backTo pos (starEach es X.env)).any (·.1) = false := by rfl) : SE X (.Call (.Name "list" p) (e :: es) [] pos) (mA fLstOf m) :=
  se_ty call_list_of ok_lstOf ha hm (by decide +kernel) hg (by decide) (by decide) he hpl
theorem se_toint (ha : SA X (e :: es) m) (hm : X.mg "int" = none) (hg : Gl X "int" := by rfl) (he : starEach (e :: es) X.env = (false, eval e X.env) :: starEach es X.env := by rfl) (hpl : (backTo pos (starEach es X.env)).any (·.1) = false := by rfl) : SE X (.Call (.Name "int" p) (e :: es) [] pos) (mA fInt m) :=
  se_ty call_int1 ok_int ha hm (by decide +kernel) hg (by decide) (by decide) he hpl
theorem se_gcd (ha : SA X (e :: es) m) (hm : X.mg "gcd" = some (.builtin "math.gcd")) (hg : Gl X "gcd" := by rfl) (he : starEach (e :: es) X.env = (false, eval e X.env) :: starEach es X.env := by rfl) (hpl : (backTo pos (starEach es X.env)).any (·.1) = false := by rfl) : SE X (.Call (.Name "gcd" p) (e :: es) [] pos) (mA fGcd m) :=
  se_bf cr_gcd ok_gcd ha hm hg (by decide) he hpl
end
mutual
theorem noDict_has : ∀ d : PyData, noDict d = true → d.hasDict = false
  | .none, _ => rfl
  | .bool _, _ => rfl
  | .int _, _ => rfl
  | .str _, _ => rfl
  | .list xs, h => by simp only [PyData.hasDict]; exact noDicts_has xs (by simpa [noDict] using h)
  | .tuple xs, h => by simp only [PyData.hasDict]; exact noDicts_has xs (by simpa [noDict] using h)
  | .dict _, h => by simp [noDict] at h
theorem noDicts_has : ∀ d : List PyData, noDicts d = true → PyData.hasDictAll d = false
  | [], _ => by simp [PyData.hasDictAll]
  | x :: xs, h => by
    simp only [noDicts, Bool.and_eq_true] at h
    simp only [PyData.hasDictAll, noDict_has x h.1, noDicts_has xs h.2, Bool.or_self]
end
def isSeq : PyData → Bool
  | .list _ => true
  | .tuple _ => true
  | _ => false
def reprOk (d : PyData) : Bool := isSeq d && noDict d && d.showable && decide (d.depth ≤ 60) && decide (d.shown.length ≤ sizeLine)
def fRepr : List R → Option R
  | [x] => match rdD x with
    | some d => if reprOk d = true then some (.d (.str d.shown)) else none
    | none => none
  | _ => none
section
variable {X : Cx} {p pos : Pos} {e : Expr} {es : List Expr} {m : Ma} {k : Nat}
def rRepr (K : PySem.W.Frag) : List V → Hp → VK → Prop := fun xs H Q => ∃ a d, xs = [.ref a] ∧ Dp K H (.ref a) d ∧ reprOk d = true ∧ Q (.str d.shown) H
theorem call_reprD (hr : Room k X.A) (hg : X.A.guards = some []) : CallR X (.builtin "repr") (rRepr X.K) := by
  intro pins s σ H vs us Q I r h
  obtain ⟨a, d, rfl, hd, ok, q⟩ := h
  simp only [reprOk, Bool.and_eq_true, decide_eq_true_eq] at ok
  obtain ⟨⟨⟨⟨_, nd⟩, sh⟩, dp⟩, sz⟩ := ok
  cases r with
  | cons r t =>
    cases t
    cases r
    obtain ⟨as, rd⟩ := Dp.reads I d _ _ hd rfl
    have hu := hr.units
    exact repr_of_reads' rd sh (PyData.noDict_hsm (noDict_has d nd)) hg (by omega) (fun b o e => e) (fun h' u tk kk => ⟨.str d.shown, H, I.kept (t' := tk) kk, ⟨_, rfl⟩, q⟩) sz
theorem ok_repr : OkA X.K (rRepr X.K) fRepr := by
  intro sp fz fzS H H0 sto vs xs z Q s B i e k
  unfold fRepr at e
  split at e
  · rename_i r
    split at e
    · rename_i d q
      split at e
      · rename_i ok
        cases e
        cases i with
        | cons i t =>
          cases t
          have ok2 := ok
          simp only [reprOk, Bool.and_eq_true, decide_eq_true_eq] at ok2
          obtain ⟨⟨⟨⟨sq, nd⟩, _⟩, _⟩, _⟩ := ok2
          have dp := i.dp q nd
          have : ∃ a, ‹V› = .ref a := by
            cases dp <;> first | exact ⟨_, rfl⟩ | (simp [isSeq] at sq)
          obtain ⟨a, rfl⟩ := this
          exact ⟨a, d, rfl, dp, ok, k _ fz H s B.spl (.str _)⟩
      · cases e
    · cases e
  · cases e
theorem se_repr (hr : Room k X.A) (hgd : X.A.guards = some []) (ha : SA X (e :: es) m) (hm : X.mg "repr" = none) (hg : Gl X "repr" := by rfl) (he : starEach (e :: es) X.env = (false, eval e X.env) :: starEach es X.env := by rfl) (hpl : (backTo pos (starEach es X.env)).any (·.1) = false := by rfl) : SE X (.Call (.Name "repr" p) (e :: es) [] pos) (mA fRepr m) :=
  se_bi (call_reprD hr hgd) ok_repr ha hm (by decide +kernel) hg (by decide) (by decide) he hpl
end
def tyName : PyData → String
  | .none => "NoneType"
  | .bool _ => "bool"
  | .int _ => "int"
  | .str _ => "str"
  | .list _ => "list"
  | .tuple _ => "tuple"
  | .dict _ => "dict"
def isN (T S : String) : Bool := S == T || (T == "int" && S == "bool")
def isA (T : String) (d : PyData) : Bool := isN T (tyName d)
def fIsi (T : String) (x : R) : Option R := (rdD x).map fun d => .d (.bool (isA T d))
section
variable {K : PySem.W.Frag} {sp : Option Addr} {fz : Fz} {H H0 : Hp} {v : V} {x : R} {d : PyData}
theorem ImR.ty (i : ImR K sp H0 fz H v x) (e : rdD x = some d) : TyX K H v (.type (tyName d)) := by
  cases x with
  | d y =>
    cases e
    cases i with
    | non => exact .base .non
    | bl b => exact .base (.bl b)
    | int b => exact .base (.int b)
    | str b => exact .base (.str b)
    | lst h _ =>
      rcases h with ⟨h, _⟩ | ⟨o, h⟩ | ⟨o, its, n, h, c, _⟩
      · exact .base (.lst h)
      · exact .base (.frz h)
      · exact .kList h c
    | tup h _ =>
      rcases h with (h | ⟨o, h⟩) | ⟨o, its, n, h, c, _⟩
      · exact .base (.tup h)
      · exact .fTuple h
      · exact .kTuple h c
    | dct h _ _ _ => exact .base (.dK h)
  | f xs => cases e; obtain ⟨a, vs, rfl, h, _⟩ := i; exact .base (.lst h)
  | b xs => cases e; obtain ⟨a, vs, rfl, h, _⟩ := i; exact .base (.lst h)
  | s => cases e
  | m _ => cases e
  | n _ => cases e
end
/-- the built-in classes that are asked for -/
def known (T : String) : Bool := ["int", "bool", "tuple", "str", "list", "dict"].contains T
theorem kit_names : ∀ S ∈ ["NoneType", "bool", "int", "str", "list", "tuple", "dict"], ∀ T ∈ ["int", "bool", "tuple", "str", "list", "dict"], kitB S T = some (isN T S) := by decide +kernel
theorem tyName_mem (d : PyData) : tyName d ∈ ["NoneType", "bool", "int", "str", "list", "tuple", "dict"] := by cases d <;> simp [tyName]
theorem kit_known {K : PySem.W.Frag} {T : String} (h : known T = true) (d : PyData) : PySem.W.kitOne K (.type (tyName d)) (.type T) = some (isA T d) :=
  kit_ty (kit_names _ (tyName_mem d) T (by simpa [known] using h))
section
variable {X : Cx} {p p2 pos : Pos} {e : Expr} {T : String} {x : Str} {me : Mx}
theorem se_isi (hT : known T = true) (he : SE X e me) (hm : X.mg "isinstance" = none) (hm2 : X.mg x = none) (hv : bootBuiltins x = some (.type T)) (hg : Gl X "isinstance" := by rfl) (hg2 : Gl X x := by rfl) (hn2 : x ≠ "__name__" := by decide) (hd2 : (x == ("__debug__" : Str)) = false := by decide)
    (h1 : starEach [e, .Name x p2] X.env = (false, eval e X.env) :: starEach [.Name x p2] X.env := by rfl) (hpl : (backTo pos (starEach [.Name x p2] X.env)).any (·.1) = false := by rfl) : SE X (.Call (.Name "isinstance" p) [e, .Name x p2] [] pos) (m1 (fIsi T) me) :=
  PE.imp (pe_callB call_isi hg hm (by decide +kernel) (pa_cons he (pa_cons (pe_bltn (v := .ty T) hg2 hm2 hv rfl hn2 hd2) pa_nil) h1) (by decide) (by decide) h1 hpl) fun σ H Q h => by
    refine rd_one (r := fun v H Q => rIsi X.K [v, .ty T] H Q) ?_ h
    intro sp fz H H0 sto v x z Q B ix e k
    unfold fIsi at e
    cases q : rdD x with
    | none => rw [q] at e; cases e
    | some d =>
      rw [q] at e; cases e
      exact ⟨v, .ty T, _, _, _, rfl, .ty T, ix.ty q, kit_known hT d, k _ fz H .refl B.spl (.inl (.bl _))⟩
end
abbrev Mo := Ev → Sto → Option (Option Int × Sto)
def rdO (K : PySem.W.Frag) (m : Mo) : TO := fun σ H Q => ∃ (C : Cn) (fz : Fz) (ρ : Ev) (sto : Sto) (r : Option Int) (sto' : Sto), Fm K C fz ρ sto σ H ∧ m ρ sto = some (r, sto') ∧ ∀ fz' H', Stp C.sp fz H fz' H' → SpL C.sp H' sto' → Q r H'
def SO (X : Cx) (e : Option Expr) (m : Mo) : Prop := PO X e (rdO X.K m)
def moNone : Mo := fun _ s => some (none, s)
def moSome (a : Mx) : Mo := bnd a fun x _ => ret (match x with | .d (.int i) => some (some i) | _ => none)
theorem PO.imp {X : Cx} {e : Option Expr} {t t' : TO} (h : PO X e t) (q : ∀ σ H Q, t' σ H Q → t σ H Q) : PO X e t' := ⟨fun pins s σ H Q I w => h.run pins s σ H Q I (q _ _ _ w)⟩
def cutD (xs : List PyData) (lo hi : Option Int) : List PyData := (xs.drop (HT.sIx xs.length 0 lo)).take (HT.sIx xs.length xs.length hi - HT.sIx xs.length 0 lo)
theorem ImA.cut {K : PySem.W.Frag} {fz : Fz} {H : Hp} {vs : List V} {xs : List PyData} (h : ImA K fz H vs xs) (lo hi : Option Int) : ImA K fz H (cutV vs lo hi) (cutD xs lo hi) := by
  unfold cutV cutD
  rw [h.length]
  exact (h.drop _).take _
def fSl (x : R) (lo hi : Option Int) : Option R := match x with
  | .d (.tuple xs) => some (.d (.tuple (cutD xs lo hi)))
  | x => (rdL x).map fun xs => .f (cutD xs lo hi)
def mSl (a : Mx) (l h : Mo) : Mx := bnd a fun x => bnd l fun lo => bnd h fun hi _ => ret (fSl x lo hi)
section
variable {X : Cx} {e : Expr} {a b : Option Expr} {me : Mx} {ma mb : Mo} {p2 pos : Pos}
theorem so_none : SO X none moNone := PO.imp po_none fun σ H Q h => by
  obtain ⟨C, fz, ρ, sto, r, sto', F, e, k⟩ := h
  cases e
  exact k fz H .refl F.bs.spl
theorem so_some (he : SE X e me) : SO X (some e) (moSome me) := PO.imp (po_some he) fun σ H Q h => by
  obtain ⟨C, fz, ρ, sto, r, sto', F, e, k⟩ := h
  obtain ⟨x, s1, ea, e1⟩ := bnd_some e
  obtain ⟨ef, rfl⟩ := ret_some e1
  clear e e1
  refine ⟨C, fz, ρ, sto, x, _, F, ea, fun v fz1 H1 st1 l1 i1 => ?_⟩
  split at ef
  · cases ef; cases i1
    exact ⟨_, rfl, k fz1 H1 st1 l1⟩
  · cases ef
theorem cut_whole {xs : List PyData} {lo hi : Option Int} (h : HT.sIx xs.length 0 lo = 0 ∧ HT.sIx xs.length xs.length hi = xs.length) : cutD xs lo hi = xs := by
  unfold cutD
  rw [h.1, h.2, List.drop_zero, Nat.sub_zero, List.take_length]
theorem se_sl (he : SE X e me) (ha : SO X a ma) (hb : SO X b mb) : SE X (.Subscript e (.Slice a b none p2) pos) (mSl me ma mb) := PE.imp (pe_slice (sl_list.or sl_tupA) he ha hb) fun σ H Q h => by
  obtain ⟨C, fz, ρ, sto, z, sto', F, e, k⟩ := h
  obtain ⟨x, s1, ea, e1⟩ := bnd_some e
  obtain ⟨lo, s2, eb, e2⟩ := bnd_some e1
  obtain ⟨hi, s3, ec, e3⟩ := bnd_some e2
  obtain ⟨ef, rfl⟩ := ret_some e3
  clear e e1 e2 e3
  refine ⟨C, fz, ρ, sto, x, s1, F, ea, fun v fz1 H1 st1 l1 i1 => ?_⟩
  have F1 := F.step st1 l1
  refine ⟨C, fz1, ρ, s1, lo, s2, F1, eb, fun fz2 H2 st2 l2 => ?_⟩
  have F2 := F1.step st2 l2
  refine ⟨C, fz2, ρ, s2, hi, _, F2, ec, fun fz3 H3 st3 l3 => ?_⟩
  have F3 := F2.step st3 l3
  have st := (st1.trans st2).trans st3
  have i3 := (i1.stp st2 F1.bs).stp st3 F2.bs
  unfold fSl at ef
  split at ef
  · cases ef
    obtain ⟨q, vs, rfl, h1, h2⟩ := i3.tup
    refine .inr ⟨q, vs, rfl, h1, fun hw => ?_, fun _ p hp => ?_⟩
    · rw [h2.length] at hw
      refine k _ fz3 H3 st l3 ?_
      rw [cut_whole hw]
      exact i3
    · obtain ⟨s4, l4, i4⟩ := new_tup F3.bs (h2.cut lo hi) hp
      exact k _ fz3 _ (st.trans s4) l4 i4
  · rename_i x' _
    cases q : rdL x with
    | none => rw [q] at ef; cases ef
    | some xs =>
      rw [q] at ef; cases ef
      obtain ⟨q, vs, rfl, h1, h2⟩ := i3.list q
      refine .inl ⟨q, vs, rfl, h1, fun p hp => ?_⟩
      obtain ⟨s4, l4, i4⟩ := new_lst F3.bs (h2.cut lo hi) hp
      exact k _ fz3 _ (st.trans s4) l4 (i4.early st)
end
end Dh
namespace Dh
open PySem PySem.Spec L2 PySem.W
/-- the values of the parameters, by the places of the keywords -/
def perm {α : Type} (d : α) (π : List Nat) (xs : List α) : List α := π.map fun i => xs.getD i d
def KB0 (K : PySem.W.Frag) (fd : FuncData) (ps ks : List Str) (π : List Nat) : Prop := ∀ (s : Shared) (ws : List Value), K.In s.heap → ws.length = ks.length → BindsTo s fd ⟨[], ks.zip ws⟩ (ps.zip (perm Value.none π ws))
def mCallK (g : Fx) (π : List Nat) (n : Nat) (a : Ma) : Mx := bnd a fun rs _ s => match toArgs rs with
  | some cs => if cs.length = n then g (perm (.d .none) π cs) s else none
  | none => none
theorem perm_vals {π : List Nat} {vs : List V} {us : List Value} (r : Vals vs us) : Vals (perm V.non π vs) (perm Value.none π us) := by
  induction π with
  | nil => exact .nil
  | cons i π ih =>
    refine .cons ?_ ih
    show RelV (vs.getD i V.non) (us.getD i Value.none)
    rw [List.getD_eq_getElem?_getD, List.getD_eq_getElem?_getD]
    cases q : vs[i]? with
    | none =>
      have h1 := Vals.none_of r q
      rw [h1]
      rfl
    | some v =>
      obtain ⟨u, hu, ru⟩ := r.get q
      rw [hu]
      exact ru
theorem perm_args {K : PySem.W.Frag} {fz : Fz} {sp : Option Addr} {H : Hp} {π : List Nat} {vs : List V} {cs : List Cl} (r : Paired (ArgOk K fz sp H) vs cs) : Paired (ArgOk K fz sp H) (perm V.non π vs) (perm (.d .none) π cs) := by
  induction π with
  | nil => exact .nil
  | cons i π ih =>
    refine .cons ?_ ih
    show ArgOk K fz sp H (vs.getD i V.non) (cs.getD i (.d .none))
    rw [List.getD_eq_getElem?_getD, List.getD_eq_getElem?_getD]
    cases q : cs[i]? with
    | none =>
      have : vs[i]? = none := List.getElem?_eq_none_iff.mpr (by rw [pLen r]; exact List.getElem?_eq_none_iff.mp q)
      rw [this]
      exact .non
    | some c =>
      obtain ⟨v, hv, rv⟩ := pAt r i c q
      rw [hv]
      exact rv
def SK (X : Cx) (kws : List Keyword) (m : Ma) : Prop := PK X kws (rdA X.K m)
theorem PK.imp {X : Cx} {e : List Keyword} {t t' : TA} (h : PK X e t) (q : ∀ σ H Q, t' σ H Q → t σ H Q) : PK X e t' := ⟨fun p pins s σ H Q I w => h.run p pins s σ H Q I (q _ _ _ w)⟩
section
variable {X : Cx} {k : Nat} {f : Addr} {fd : FuncData} {ps ks : List Str} {π : List Nat} {x : Str} {p pos kpos : Pos} {e : Expr} {kws : List Keyword} {m mr : Ma} {me : Mx} {g : Fx} {nm : Option Str}
theorem sk_nil : SK X [] maNil := PK.imp pk_nil fun σ H Q h => by
  obtain ⟨C, fz, ρ, sto, r, sto', F, e, k⟩ := h
  cases e
  exact k [] fz H .refl F.bs.spl .nil
theorem sk_cons (he : SE X e me) (hr : SK X kws mr) : SK X (⟨nm, e, kpos⟩ :: kws) (maCons me mr) := PK.imp (pk_cons he hr) fun σ H Q h => by
  obtain ⟨C, fz, ρ, sto, r, sto', F, e, k⟩ := h
  obtain ⟨x, s1, ea, e1⟩ := bnd_some e
  obtain ⟨xs, s2, eb, e2⟩ := bnd_some e1
  clear e e1
  cases e2
  refine ⟨C, fz, ρ, sto, x, s1, F, ea, fun v fz1 H1 st1 l1 i1 => ?_⟩
  refine ⟨C, fz1, ρ, s1, xs, sto', F.step st1 l1, eb, fun vs fz2 H2 st2 l2 i2 => ?_⟩
  exact k (v :: vs) fz2 H2 (st1.trans st2) l2 (.cons (i1.stp st2 (F.bs.step st1 l1)) (i2.early st1))
def tCallK0 (sp : Sp) (π : List Nat) (n : Nat) (t : TA) : TE := fun σ H Q => t σ H fun vs H1 => vs.length = n ∧ sp (perm V.non π vs) H1 Q E0
theorem pe_callK0 {sp : Sp} {t : TA} (F : FnG X.prog X.w X.K X.mg X.base k f fd ps sp) (hr : Room k X.A) (hgd : X.A.guards = some []) (hm : X.mg x = some (.ref f)) (hk : PySem.W.keepIn X.K (.ref f) = true) (hb : KB0 X.K fd ps ks π) (ha : PK X kws t) (hg : Gl X x)
    (hall : (backToKw pos (keywordEach kws X.env)).all (·.1.isSome) = true := by rfl) (hks : (backToKw pos (keywordEach kws X.env)).filterMap (·.1) = ks := by rfl)
    (hdb : (x == ("__debug__" : Str)) = false := by decide) (hpl : ((backTo pos (starEach [] X.env)).any (·.1) || (backToKw pos (keywordEach kws X.env)).any (·.1.isNone)) = false := by rfl) :
    PE X (.Call (.Name x p) [] kws pos) (tCallK0 sp π ks.length t) := ⟨fun pins s σ H Q I h => by
  refine wpAny_Call_Name_kw (ld_glob I hg hm (PySem.W.callWith_KW0 (h₀ := X.base) I.ok.mod.kin hk hall (thn (ha.run pos pins s σ H _ I h) ?_) hpl) hdb)
  rintro us s1 ⟨vs, H1, I1, r, hl, q⟩
  rw [hks]
  have b := hb s1 us I1.kIn (by rw [← r.length]; exact hl)
  refine ⟨I1.kIn, wpAny_call (codeAny_mono (run_fnG F hr hgd I1 b (perm_vals r) q) fun res s' hq => ?_)⟩
  match res, hq with
  | .error e, hq => exact hq
  | .ok (.ret u), hq => exact hq
  | .ok .next, hq => exact False.elim hq
  | .ok .brk, hq => exact False.elim hq
  | .ok .cont, hq => exact False.elim hq⟩
theorem se_callK {n l : Nat} {mb : Ms} (F : FnG X.prog X.w X.K X.mg X.base k f fd ps (spOf X.K n (run' n l mb))) (hr : Room k X.A) (hgd : X.A.guards = some []) (hm : X.mg x = some (.ref f)) (hk : PySem.W.keepIn X.K (.ref f) = true) (hb : KB0 X.K fd ps ks π) (ha : SK X kws m) (hg : Gl X x := by rfl)
    (hall : (backToKw pos (keywordEach kws X.env)).all (·.1.isSome) = true := by rfl) (hks : (backToKw pos (keywordEach kws X.env)).filterMap (·.1) = ks := by rfl)
    (hdb : (x == ("__debug__" : Str)) = false := by decide) (hpl : ((backTo pos (starEach [] X.env)).any (·.1) || (backToKw pos (keywordEach kws X.env)).any (·.1.isNone)) = false := by rfl) :
    SE X (.Call (.Name x p) [] kws pos) (mCallK (run' n l mb) π ks.length m) := PE.imp (pe_callK0 F hr hgd hm hk hb ha hg hall hks hdb hpl) fun σ H Q h => by
  obtain ⟨C, fz, ρ, sto, z, sto', F, e, k⟩ := h
  obtain ⟨rs, s1, ea, e1⟩ := bnd_some e
  clear e
  split at e1
  · rename_i cs ec
    split at e1
    · rename_i hn
      refine ⟨C, fz, ρ, sto, rs, s1, F, ea, fun vs fz1 H1 st1 l1 i1 => ?_⟩
      obtain ⟨fz2, st2, B2, _, a⟩ := ImRs.args i1 ec fz1 st1 (F.bs.step st1 l1) fun _ h => h
      exact ⟨(pLen a).trans hn, C.sp, fz2, _, s1, z, sto', run'_len _ s1 _ e1, perm_args a, B2, e1, fun v fz3 H3 st3 l3 i3 => k v fz3 H3 (st2.trans st3) l3 (i3.early st2)⟩
    · cases e1
  · cases e1
end
def mPair (i : Nat) (ix : Mx) (j : Nat) (a : Mx) : Ms := fun ρ s => match a ρ s with
  | some (.d (.tuple [.int q, y]), s1) => match ix ρ s1, ρ[i]? with
    | some (.d (.int k), s2), some (some .s) => match ixN s2.length k with
      | some n => some (.nx, ρ.set j (some (.d y)), s2.set n q)
      | none => none
    | _, _ => none
  | _ => none
section
variable {X : Cx} {i j : Nat} {y : Str} {e : Expr} {tgs : Expr} {me mi : Mx} {py pos tpos : Pos} {kk : Nat}
/-- hg is pg_sub (pv i) hix set_list -/
theorem ss_pair (hc : X.calm = true) (hN : X.N.Nodup) (he : SE X e me) (hg : PG X tgs (gSub (tVar i) (rdE X.K mi) rSetL)) (hj : X.N[j]? = some y := by rfl) (hy : Loc X.env.scope y := by first | exact Or.inl rfl | exact Or.inr rfl)
    (hf : X.fn y = true ∨ X.env.scope.names.lookup y = some .local := by first | exact .inl rfl | exact .inr rfl)
    (h1 : (assignEach (tgs :: [.Name y py]) X.env).map (·.2) = assign tgs X.env :: (assignEach [.Name y py] X.env).map (·.2) := by rfl) (h2 : (assignEach (.Name y py :: []) X.env).map (·.2) = assign (.Name y py) X.env :: (assignEach [] X.env).map (·.2) := by rfl)
    (hn : (assignEach [tgs, .Name y py] X.env).length = 2 := by rfl) (hst : (assignEach [tgs, .Name y py] X.env).findIdx? (·.1) = none := by rfl)
    (hs : swapsWithSole [.Tuple [tgs, .Name y py] kk tpos] e pos.line X.env = pure false := by rfl) (hw : swappedStores [.Tuple [tgs, .Name y py] kk tpos] e X.env = pure none := by rfl)
    (h3 : (assignEach [.Tuple [tgs, .Name y py] kk tpos] X.env).map (·.2) = [assign (.Tuple [tgs, .Name y py] kk tpos) X.env] := by rfl) :
    SS X (.Assign [.Tuple [tgs, .Name y py] kk tpos] e pos) (mPair i mi j me) :=
  PS.impI (ps_asg he (pg_tup hc (pgs_cons hg (pgs_cons (pg_name hN hj hy hf) pgs_nil h2) h1) hn hst) hs hw h3) fun D σ H hl h => by
    obtain ⟨C, fz, ρ, sto, out, ρ', sto', F, e, k⟩ := h
    unfold mPair at e
    split at e
    · rename_i q yy s1 e1
      split at e
      · rename_i kk' s2 e2 ei
        split at e
        · rename_i n en
          cases e
          refine ⟨C, fz, ρ, sto, _, s1, F, e1, fun v fz1 H1 st1 l1 i1 => ?_⟩
          cases i1 with
          | tup ht ha =>
            rename_i a xs
            cases ha with
            | cons hq ha =>
              cases ha with
              | cons hyv ha =>
                cases ha
                cases hq
                have F1 := F.step st1 l1
                refine ⟨a, _, rfl, ht.sq, rfl, _, _, rfl, ?_⟩
                obtain ⟨p, hp, hs⟩ := F1.vars _ _ ei
                refine ⟨_, hs, C, fz1, ρ, s1, _, _, F1, e2, fun w fz2 H2 st2 l2 i2 => ?_⟩
                cases i2
                refine ⟨p, _, kk', n, rfl, rfl, l2 p hp, by rw [List.length_map]; exact en, ?_⟩
                have F2 := F1.step st2 l2
                obtain ⟨F4, S4⟩ := F2.spring (s2.set n q) hp
                refine ⟨_, _, rfl, rfl, ?_⟩
                rw [← List.map_set]
                exact k fz2 _ _ (F4.name ((hyv.stp st2 F1.bs).sts S4 F2.bs) (lt_of_slot hj hl)) ((st1.trans st2).sts.trans S4)
        · cases e
      · cases e
    · cases e
end
end Dh
namespace Dh
open PySem PySem.Spec L2
/-- the tuple at a, each item with its place in a new pair -/
def IteT (K : PySem.W.Frag) (a : Addr) : It where
  go := fun i H => ∃ (xs : List V) (x : V), SqT K H a xs ∧ xs[i]? = some x
  yld := fun i H v H' => ∃ T x, v = .ref T ∧ H T = none ∧ H' = upd H T (.tup [.int (i : Nat), x]) ∧ ∀ xs, SqT K H a xs → xs[i]? = some x
  stop := fun i H => ∃ xs : List V, SqT K H a xs ∧ xs.length = i
theorem turn_enumT {P : Program} {w : World} {K : PySem.W.Frag} {elts : List Expr} {kk : Nat} {tpos : Pos} (a e it : Addr) (hai : a ≠ it) :
    Turn P w K (.Tuple elts kk tpos) (IteT K a) [e, it] e (fun i h => (∃ old, IsEnum h e it ((i : Nat) : Int) old) ∧ h.IsTupleIter it a i ∧ e ≠ it ∧ a ≠ e) where
  mem := List.mem_cons_self
  obj := by
    rintro i h ⟨⟨old, he⟩, ⟨o, ho, hc, hd⟩, _⟩ b hb
    simp only [List.mem_cons, List.not_mem_nil, or_false] at hb
    rcases hb with rfl | rfl
    · exact ⟨_, he, fun v q => nomatch q⟩
    · exact ⟨o, ho, fun v q => by rw [hd] at q; cases q⟩
  keep := by
    rintro i h h' ⟨⟨old, he⟩, hi, hne⟩ k
    exact ⟨⟨old, k e (by simp) _ he⟩, hi.at fun o q => k it (by simp) o q, hne⟩
  item := by
    rintro X rfl rfl rfl hc i pins s σ H E I hf ⟨⟨old, he⟩, hit, hne, hae⟩ ⟨xs, x, hq, hx⟩
    obtain ⟨its, rv, p, hz⟩ := I.tuple hq
    obtain ⟨u, hu, ru⟩ := rv.get hx
    have hlt : i < its.toArray.size := by simpa using (List.getElem?_eq_some_iff.mp hu).1
    have hel : e < s.heap.objs.size := Heap.lt_size he
    have hil : it < s.heap.objs.size := by obtain ⟨_, q, _⟩ := hit; exact Heap.lt_size q
    have D := Draws.tuple (prog := X.prog) (w := X.w) (A := X.A.in1) (I.ok.hd hc) it a hai its.toArray
    refine wpAny_pyNext_enum_itemC D he ⟨hit, p⟩ hlt hne (by simp [hne, Ne.symm hae]) fun x' h' tk hP ho hs' hT hsz hk => ?_
    have ex : x' = u := by
      have q : its.toArray[i]? = some u := by simpa using hu
      rw [show its.toArray[i]? = some x' from hP] at q
      exact Option.some.inj q
    subst ex
    refine ⟨_, rfl, wpAny_letOwnedTupleGo_enum (s := { s with heap := h', toks := tk + 1 }) ho fun h2 he' sb => ?_⟩
    have hT2 : h2.get? s.heap.objs.size = some { cls := .type "tuple", data := .seq #[.int i tk, x'] } := (sb.2 _ (Nat.ne_of_gt hel)).trans hT
    have I1 : Inv X pins σ (upd H s.heap.objs.size (.tup [.int (i : Nat), x])) { s with heap := h2, toks := tk + 1 } := by
      refine I.turnedNew (ch := [e, it]) (fun b ob hb q => ?_) hf (Nat.le_refl _) ⟨(by show 2 ≤ sizeLine; decide), [.int i tk, x'], .cons ⟨_, rfl⟩ (.cons ru .nil), ⟨_, hT2, rfl, _, rfl⟩⟩
      simp only [List.mem_cons, List.not_mem_nil, or_false, not_or] at hb
      exact (sb.2 b hb.1).trans (hk b ob hb.1 hb.2 q)
    refine ⟨.ref s.heap.objs.size, _, I1, rfl, ⟨_, x, rfl, I.hok.fresh (Nat.le_refl _), rfl, fun ys hy => ?_⟩, ⟨⟨x', ?_⟩, hs'.1.at fun o q => (sb.2 it (Ne.symm hne)).trans q, hne, hae⟩, fun b hb => ?_⟩
    · rw [I.tuple_inj hy hq]; exact hx
    · rw [show ((i + 1 : Nat) : Int) = (i : Int) + 1 from by omega]; exact he'
    · have hb' : b < s.heap.objs.size := by
        simp only [List.mem_cons, List.not_mem_nil, or_false] at hb
        rcases hb with rfl | rfl
        · exact hel
        · exact hil
      rw [upd_ne (Nat.ne_of_lt hb')]
      exact (hf b hb).1
  done := by
    rintro X rfl rfl rfl hc i pins s σ H E I hf ⟨⟨old, he⟩, hit, hne, hae⟩ ⟨xs, hq, hx⟩
    obtain ⟨its, rv, p, hz⟩ := I.tuple hq
    obtain ⟨f0, f1, f2, f3, f4, f5⟩ := hf it (by simp)
    have hl := rv.length
    have hz : i = its.toArray.size := by simp; omega
    subst hz
    exact wpAny_pyNext_enum_endD (Draws.tuple (prog := X.prog) (w := X.w) (A := X.A.in1) (I.ok.hd hc) it a hai its.toArray) he ⟨hit, p⟩ fun h' eb => ⟨rfl, I.turned (t' := s.toks) (fun b o hb q => eb b o hb q) f0 f1 f3 f4 f5⟩
  self := by
    rintro A i s Q E ⟨⟨old, he⟩, _⟩ h
    exact wpAny_pyIter_enum he h
set_option maxHeartbeats 4000000 in
theorem meets_enum1 {v : Value} {o : Obj} {H : Heap → Prop} (B : Begins v o H) : Meets (Builtin.«enumerate.__new__» ⟨[.type "enumerate", v], []⟩) (fun _ R s => H s.heap ∧
    R (.ok (.ret (.ref (s.heap.push o).objs.size))) { s with heap := (s.heap.push o).push { cls := .type "enumerate", data := .fields #[.none, .bool false, .ref s.heap.objs.size, rawInt 0, .none, .none] } }) := .of_wp fun prog w A R s h => by
  obtain ⟨hp, g, d, tk, os⟩ := s
  obtain ⟨h1, h⟩ := h
  have hsub := sub_enumerate
  have q1 : ∀ {A' : Around} {E : Value → Shared → Prop} {Q : Value → Shared → Prop}, Q (.ref hp.objs.size) ⟨hp.push o, g, d, tk, os⟩ → wpAny (model prog w) A' (pyIter v) Q E ⟨hp, g, d, tk, os⟩ := fun q => B.iter prog w _ _ ⟨hp, g, d, tk, os⟩ _ h1 q
  wp_walk using q1
  refine wpAny_stack_any fun st => wpAny_pure ?_
  split
  · rename_i c _ _ _ _ _
    cases (c == Value.type "enumerate") <;> (wp_walk using q1; exact ⟨_, rfl, h⟩)
  · wp_walk using q1
    exact ⟨_, rfl, h⟩
theorem call_enum1 {prog : Program} {w : World} {A : Around} {E : Value → Shared → Prop} {s : Shared} {v : Value} {o : Obj} {H : Heap → Prop} {Q : Value → Shared → Prop} (B : Begins v o H) (h1 : H s.heap)
    (h : ∀ h', IsEnum h' (s.heap.objs.size + 1) s.heap.objs.size 0 .none → h'.get? s.heap.objs.size = some o → (∀ b o, s.heap.get? b = some o → h'.get? b = some o) → Q (.ref (s.heap.objs.size + 1)) { s with heap := h' }) : wpAny (model prog w) A (call (.type "enumerate") [v]) Q E s := by
  refine callType_new F.called_enumerate (by decide) (F.typeCall_enumerate_1 _) (F.newCall_enumerate_1 _) (fun obj => F.args_object_init_2 obj _) F.entry_enumerate_new (meets_enum1 B) ⟨h1, ?_⟩
  have hz : (s.heap.push o).objs.size = s.heap.objs.size + 1 := Heap.size_push ..
  show _ ∧ _
  rw [hz]
  have he : IsEnum ((s.heap.push o).push { cls := .type "enumerate", data := .fields #[.none, .bool false, .ref s.heap.objs.size, rawInt 0, .none, .none] }) (s.heap.objs.size + 1) s.heap.objs.size 0 .none := by
    have q := Heap.get?_push_size (s.heap.push o) (o := { cls := .type "enumerate", data := .fields #[.none, .bool false, .ref s.heap.objs.size, rawInt 0, .none, .none] }) rfl
    rw [hz] at q
    exact q
  exact ⟨⟨_, he, rfl⟩, h _ he (Heap.get?_push_of_some _ (Heap.get?_push_size _ B.free)) fun b o q => Heap.get?_push_of_some _ (Heap.get?_push_of_some _ q)⟩
def iEnumA (K : PySem.W.Frag) (ta : TA) : TI := fun σ H R => ta σ H fun vs H1 => ∃ a xs, vs = [.ref a] ∧ ((SqL K H1 a xs ∧ R (Ite K a) H1) ∨ (SqT K H1 a xs ∧ R (IteT K a) H1))
theorem pi_enumA {X : Cx} {e : Expr} {ta : TA} {p pos tpos : Pos} {elts : List Expr} {kk : Nat} (hg : Gl X "enumerate") (hm : X.mg "enumerate" = none) (ha : PA X [e] ta) (hs : starEach [e] X.env = [(false, eval e X.env)] := by rfl) :
    PI X (.Tuple elts kk tpos) (.Call (.Name "enumerate" p) [e] [] pos) (iEnumA X.K ta) := ⟨fun pins s σ H R I h => by
  refine PyProof.Rows.Call_ (ld_blt I hg hm PyProof.Rows.boot_enumerate (PyProof.Rows.callWith_type1 (thn (ha.run pos pins s σ H _ I h) ?_) hs rfl))
  rintro us s1 ⟨vs, H1, I1, r1, a, xs, rfl, q⟩
  cases r1 with
  | cons r t =>
    cases t
    cases r
    have fr : ∀ b ∈ [s1.heap.objs.size + 1, s1.heap.objs.size], FpOk X pins H1 b := fun b hb => by
      have hle : s1.heap.objs.size ≤ b := by
        simp only [List.mem_cons, List.not_mem_nil, or_false] at hb
        rcases hb with rfl | rfl
        · exact Nat.le_add_right _ _
        · exact Nat.le_refl _
      exact I1.fpOk hle (I1.hok.fresh hle)
    rcases q with ⟨hq, q⟩ | ⟨hq, q⟩
    · obtain ⟨its, rv, p', _⟩ := I1.list hq
      refine call_enumerate_list p'.isList fun h' he hit hsz hk => wpAny_pyIter_enum he ?_
      exact ⟨_, _, _, _, H1, rfl, I1.kept (t' := s1.toks) hk, turn_enum a (s1.heap.objs.size + 1) s1.heap.objs.size, ⟨⟨.none, he⟩, hit, Nat.succ_ne_self _⟩, fr, q⟩
    · obtain ⟨its, rv, p', _⟩ := I1.tuple hq
      have hlt : a < s1.heap.objs.size := by obtain ⟨o, ho, _⟩ := id p'; exact Heap.lt_size ho
      refine call_enum1 (begins_tuple a its.toArray) (show s1.heap.IsTuple a its.toArray from p') fun h' he hit hk => wpAny_pyIter_enum he ?_
      exact ⟨_, _, _, _, H1, rfl, I1.kept (t' := s1.toks) hk, turn_enumT a (s1.heap.objs.size + 1) s1.heap.objs.size (Nat.ne_of_lt hlt), ⟨⟨.none, he⟩, ⟨_, hit, rfl, rfl⟩, Nat.succ_ne_self _, Nat.ne_of_lt (Nat.lt_succ_of_lt hlt)⟩, fr, q⟩⟩
section
variable {K : PySem.W.Frag} {sp : Option Addr} {fz fz1 : Fz} {H H1 : Hp} {sto : Sto}
def numbered (xs : List PyData) : List PyData := xs.zipIdx.map fun p => PyData.tuple [.int (p.2 : Nat), p.1]
theorem numbered_at {xs : List PyData} {i : Nat} {z : PyData} (h : (numbered xs)[i]? = some z) : ∃ x, xs[i]? = some x ∧ z = .tuple [.int (i : Nat), x] := by
  unfold numbered at h
  rw [List.getElem?_map, List.getElem?_zipIdx] at h
  cases q : xs[i]? with
  | none => rw [q] at h; cases h
  | some x => rw [q] at h; simp at h; exact ⟨x, rfl, h.symm⟩
theorem numbered_length (xs : List PyData) : (numbered xs).length = xs.length := by unfold numbered; simp
theorem goes_enumL {a : Addr} {vs : List V} {xs : List PyData} (h : FzL K fz H a vs) (im : ImA K fz H vs xs) (B0 : Bs sp fz H sto) : Goes K sp fz H (Ite K a) (numbered xs) :=
  .of (walk_enum (xs := vs)) (by rw [numbered_length, im.length]) (fun fz1 H1 sto s B => (h.sts s B0).sq) fun i x fz1 H1 sto v H2 hx s B y => by
    obtain ⟨T, v1, v2, rfl, hT, e, g1, g2⟩ := y
    obtain ⟨x', hx', rfl⟩ := numbered_at hx
    obtain ⟨w, hw, iw⟩ := im.at i x' hx'
    have g2' : vs[i]? = some v2 := g2
    rw [g2'] at hw; cases hw
    cases (show some (V.int (i : Nat)) = some v1 from g1)
    exact pair_new B (.int _) (iw.sts s B0) hT e
theorem goes_enumT {a : Addr} {vs : List V} {xs : List PyData} (h : SqT K H a vs) (im : ImA K fz H vs xs) (B0 : Bs sp fz H sto) : Goes K sp fz H (IteT K a) (numbered xs) := by
  refine ⟨fun i fz1 H1 sto hi s B => ?_, fun fz1 H1 sto s B => ?_, fun i x fz1 H1 sto v H2 hx s B y => ?_⟩
  · rw [numbered_length, ← im.length] at hi
    exact ⟨vs, vs[i], SqT.sts s B0 h, List.getElem?_eq_getElem hi⟩
  · exact ⟨vs, SqT.sts s B0 h, by rw [numbered_length, im.length]⟩
  · obtain ⟨T, v2, rfl, hT, e, g2⟩ := y
    obtain ⟨x', hx', rfl⟩ := numbered_at hx
    obtain ⟨w, hw, iw⟩ := im.at i x' hx'
    rw [g2 vs (SqT.sts s B0 h)] at hw; cases hw
    exact pair_new B (.int _) (iw.sts s B0) hT e
end
def enum1 : List R → Option (List PyData)
  | [x] => (itemsOf x).map numbered
  | _ => none
section
variable {X : Cx} {e : Expr} {m : Ma} {p pos tpos : Pos} {elts : List Expr} {kk : Nat}
theorem si_enum (ha : SA X [e] m) (hm : X.mg "enumerate" = none) (hg : Gl X "enumerate" := by rfl) (hs : starEach [e] X.env = [(false, eval e X.env)] := by rfl) : SI X (.Tuple elts kk tpos) (.Call (.Name "enumerate" p) [e] [] pos) (mArgI enum1 m) := PI.imp (pi_enumA hg hm ha hs) fun σ H R h => by
  obtain ⟨C, fz, ρ, sto, xs, sto', F, e, k⟩ := h
  obtain ⟨x, s1, ea, e1⟩ := bnd_some e
  obtain ⟨ef, rfl⟩ := ret_some e1
  clear e e1
  refine ⟨C, fz, ρ, sto, x, _, F, ea, fun vs fz1 H1 st1 l1 i1 => ?_⟩
  have B1 := F.bs.step st1 l1
  unfold enum1 at ef
  split at ef
  · rename_i r
    cases q : itemsOf r with
    | none => rw [q] at ef; cases ef
    | some ys =>
      rw [q] at ef
      cases ef
      cases i1 with
      | cons i1 t =>
        cases t
        unfold itemsOf at q
        split at q
        · cases q
          cases i1 with
          | lst h im => exact ⟨_, _, rfl, .inl ⟨h.sq, k _ fz1 H1 st1 l1 (goes_enumL h im B1)⟩⟩
        · cases q
          cases i1 with
          | tup h im => exact ⟨_, _, rfl, .inr ⟨h.sq, k _ fz1 H1 st1 l1 (goes_enumT h.sq im B1)⟩⟩
        · cases q
          obtain ⟨a, ws, rfl, h1, h2, h3, h4, h5⟩ := i1
          have st2 := st1.freeze h5 h4 h1
          exact ⟨a, ws, rfl, .inl ⟨.inl (.inl h1), k _ _ H1 st2 l1 (goes_enumL (.inl ⟨h1, .inr rfl⟩) (h2.fzm fun b q => .inl q) (F.bs.step st2 l1))⟩⟩
        · cases q
  · cases ef
end
end Dh
namespace Dh
open PySem PySem.Spec PyProof.Rows L2 PySem.W
def mBrk : Ms := fun ρ s => some (.bk, ρ, s)
def mCnt : Ms := fun ρ s => some (.ct, ρ, s)
def mRetN : Ms := fun ρ s => some (.rt (.d .none), ρ, s)
/-- an expression for what it does alone -/
def mDrop (a : Mx) : Ms := fun ρ s => match a ρ s with
  | some (_, s1) => some (.nx, ρ, s1)
  | none => none
section
variable {X : Cx} {e : Expr} {me : Mx} {pos : Pos}
theorem ss_drop (he : SE X e me) (hs : swapsWith e none pos.line X.env = pure false := by rfl) : SS X (.Expr e pos) (mDrop me) := PS.imp (ps_expr he hs) fun D σ H h => by
  obtain ⟨C, fz, ρ, sto, out, ρ', sto', F, e, k⟩ := h
  unfold mDrop at e
  split at e
  · rename_i r s1 e1
    cases e
    exact ⟨C, fz, ρ, sto, r, _, F, e1, fun v fz1 H1 st1 l1 i1 => k fz1 σ H1 (F.step st1 l1) st1.sts⟩
  · cases e
/-- x, y, z = a, b, c -/
def mPar3 (i j l : Nat) (a : Ma) : Ms := fun ρ s => match a ρ s with
  | some ([r, q, u], s1) => match toCl r, toCl q, toCl u with
    | some (.d c), some (.d d), some f => some (.nx, ((ρ.set i (some (.d c))).set j (some (.d d))).set l (some f), s1)
    | some (.d c), some (.o d), some (.d f) => some (.nx, ((ρ.set i (some (.d c))).set j (some (.o d))).set l (some (.d f)), s1)
    | _, _, _ => none
  | _ => none
end
end Dh
namespace Dh
open PySem PySem.Spec L2 PySem.W PyProof.Rows
def stoOf : List PyData → Option Sto
  | [] => some []
  | .int i :: r => (stoOf r).map (i :: ·)
  | _ :: _ => none
def onlyD : List R → Option (List Cl)
  | [] => some []
  | .d x :: r => (onlyD r).map (.d x :: ·)
  | _ :: _ => none
/-- g(new list, data..): the list is g's spring -/
def mCallN (g : Fx) (a : Ma) : Mx := bnd a fun rs _ s => match rs with
  | .f xs :: r => match stoOf xs, onlyD r with
    | some s0, some cs => match g (.s :: cs) s0 with
      | some (.d x, _) => some (.d x, s)
      | some (.f x, _) => some (.f x, s)
      | _ => none
    | _, _ => none
  | _ => none
section
variable {K : PySem.W.Frag} {sp : Option Addr} {fz fz1 : Fz} {H H1 : Hp} {sto : Sto}
theorem ints_vals : ∀ {vs : List V} {xs : List PyData} {s0 : Sto}, ImA K fz H vs xs → stoOf xs = some s0 → vs = s0.map V.int
  | _, _, _, .nil, e => by cases e; rfl
  | _, _, _, .cons (d := d) h t, e => by
    cases d with
    | int i =>
      cases h
      unfold stoOf at e
      obtain ⟨s1, e1, rfl⟩ := Option.map_eq_some_iff.mp e
      rw [List.map_cons, ints_vals t e1]
    | none => cases e
    | bool _ => cases e
    | str _ => cases e
    | list _ => cases e
    | tuple _ => cases e
    | dict _ => cases e
theorem onlyD_args {q : Option Addr} : ∀ {vs : List V} {rs : List R} {cs : List Cl}, ImRs K sp H fz1 H1 vs rs → onlyD rs = some cs → Paired (ArgOk K fz1 q H1) vs cs
  | _, _, _, .nil, e => by cases e; exact .nil
  | _, _, _, .cons (b := r) h t, e => by
    cases r with
    | d x =>
      unfold onlyD at e
      obtain ⟨c1, e1, rfl⟩ := Option.map_eq_some_iff.mp e
      exact .cons h (onlyD_args t e1)
    | f _ => cases e
    | b _ => cases e
    | s => cases e
    | m _ => cases e
    | n _ => cases e
end
theorem rd_callN {K : PySem.W.Frag} {n : Nat} {g : Fx} {m : Ma} {σ : L2.St} {H : Hp} {Q : VK} (hn : ∀ cs s r, g cs s = some r → cs.length = n) (h : rdE K (mCallN g m) σ H Q) : tCallG (spOf K n g) (rdA K m) σ H Q := by
  obtain ⟨C, fz, ρ, sto, z, sto', F, e, k⟩ := h
  obtain ⟨rs, s1, ea, e1⟩ := bnd_some e
  clear e
  refine ⟨C, fz, ρ, sto, rs, s1, F, ea, fun vs fz1 H1 st1 l1 i1 => ?_⟩
  have B1 : Bs C.sp fz1 H1 s1 := F.bs.step st1 l1
  cases i1 with
  | nil => cases e1
  | @cons v r0 ws rs h t =>
    cases r0 with
    | f xs =>
      dsimp only at e1
      split at e1
      · rename_i s0 cs e2 e3
        obtain ⟨p, us, rfl, h1, h2, h3, h4, h5⟩ := h
        have eus := ints_vals h2 e2
        subst eus
        have args : Paired (ArgOk K fz1 (some p) H1) (V.ref p :: ws) (Cl.s :: cs) := .cons ⟨p, rfl, rfl⟩ (onlyD_args t e3)
        have B2 : Bs (some p) fz1 H1 s0 := ⟨fun a ea => by cases ea; exact h1, fun a ea => by cases ea; exact h3, B1.trk⟩
        have back : ∀ {fz2 : Fz} {H2 : Hp}, Stp (some p) fz1 H1 fz2 H2 → Stp C.sp fz1 H1 fz2 H2 → True := fun _ _ => trivial
        have st2 : ∀ {fz2 : Fz} {H2 : Hp}, Stp (some p) fz1 H1 fz2 H2 → Stp C.sp fz H fz2 H2 ∧ SpL C.sp H2 s1 := fun {fz2 H2} t2 => by
          have np : ∀ a, a ≠ p → some a ≠ some p := fun a n z => n (Option.some.inj z)
          refine ⟨⟨fun a q => t2.mono a (st1.mono a q), fun a o q n => ?_, fun a q => ?_, fun t a q => t2.trk (st1.trk t) a q⟩, fun a ea => ?_⟩
          · exact t2.ext a o (st1.ext a o q n) (np a (ne_of_none q h5))
          · rcases t2.new a q with q | ⟨_, q⟩
            · exact st1.new a q
            · have n : some a ≠ C.sp := l1.ne q (by intro z; cases z)
              exact .inr ⟨n, st1.back n q⟩
          · refine t2.ext a _ (l1 a ea) (np a fun z => h4 ?_)
            rw [← z, ea]
        split at e1
        · rename_i x s2 eg
          cases e1
          exact ⟨some p, fz1, _, s0, .d x, s2, hn _ _ _ eg, args, B2, eg, fun v fz3 H3 st3 l3 i3 => k v fz3 H3 (st2 st3).1 (st2 st3).2 i3⟩
        · rename_i x s2 eg
          cases e1
          refine ⟨some p, fz1, _, s0, .f x, s2, hn _ _ _ eg, args, B2, eg, fun v fz3 H3 st3 l3 i3 => k v fz3 H3 (st2 st3).1 (st2 st3).2 ?_⟩
          obtain ⟨a, us, rfl, g1, g2, g3, g4, g5⟩ := i3
          have n : some a ≠ C.sp := l1.ne g5 (by intro z; cases z)
          exact ⟨a, us, rfl, g1, g2, g3, n, st1.back n g5⟩
        · cases e1
      · cases e1
    | d _ => cases e1
    | b _ => cases e1
    | s => cases e1
    | m _ => cases e1
    | n _ => cases e1
section
variable {X : Cx} {k k2 : Nat} {f : Addr} {fd : FuncData} {ps : List Str} {x : Str} {p pos : Pos} {e : Expr} {es : List Expr} {m : Ma} {n : Nat} {g : Fx}
theorem se_callN (F : FnG X.prog X.w X.K X.mg X.base k f fd ps (spOf X.K n g)) (hr : Room k2 X.A) (hgd : X.A.guards = some []) (hm : X.mg x = some (.ref f)) (hk : PySem.W.keepIn X.K (.ref f) = true) (hb : Binds X.K fd ps []) (ha : SA X (e :: es) m)
    (hkk : k ≤ k2 := by omega) (hn : ∀ cs s r, g cs s = some r → cs.length = n := by first | exact run'_len | assumption) (hg : Gl X x := by rfl)
    (hdb : (x == ("__debug__" : Str)) = false := by decide) (he : starEach (e :: es) X.env = (false, eval e X.env) :: starEach es X.env := by rfl) (hpl : (backTo pos (starEach es X.env)).any (·.1) = false := by rfl) :
    SE X (.Call (.Name x p) (e :: es) [] pos) (mCallN g m) := PE.imp (pe_callG F (hr.mono hkk) hgd hm hk hb ha hg hdb he hpl) fun _ _ _ h => rd_callN hn h
end
/-- one entry of the heap -/
def oneH (a : Addr) (u : HO) : Hp := fun c => if c = a then some u else none
theorem oneH_self {a : Addr} {u : HO} : oneH a u a = some u := by unfold oneH; rw [if_pos rfl]
theorem oneH_some {a c : Addr} {u x : HO} (h : oneH a u c = some x) : c = a ∧ x = u := by
  unfold oneH at h
  split at h
  · cases h; exact ⟨by assumption, rfl⟩
  · cases h
section
variable {P : Program} {w : World} {K : PySem.W.Frag} {mg mb : Str → Option Value} {k : Nat} {fa a : Addr} {fd : FuncData} {x : Str} {g : Fx} {s₁ : Shared} {vs : List Value} {ns : List Int}
/-- what stands behind a tracked heap of frozen things alone -/
structure Und (K : PySem.W.Frag) (mg : Str → Option Value) (h : Heap) (H : Hp) : Prop where
  kin : K.In (hidT h H)
  main : (hidT h H).Ns mainGlobals mg
  mod : Mod K mg (hidT h H)
theorem und_of (KX : K.In s₁.heap) (hns : s₁.heap.Ns mainGlobals mg) (hb : s₁.heap.Ns builtinsNs mb) (hbb : ∀ x : Str, x ≠ "__name__" → mb x = bootBuiltins x) (hlim : s₁.heap.NoLimit) {H : Hp}
    (off : ∀ c o, s₁.heap.get? c = some o → H c ≠ none → K.lookup c = none ∧ ∀ es ep, o.data ≠ .dict es ep) : Und K mg s₁.heap H := by
  have dict : ∀ {c : Addr} {o : Obj} {es : Array DictEntry} {ep : Nat}, s₁.heap.get? c = some o → o.data = .dict es ep → (hidT s₁.heap H).get? c = some o := fun {c o es ep} e d =>
    hidT_get e (Classical.byContradiction fun z => (off c o e z).2 es ep d)
  have names : ∀ {c : Addr} {m : Str → Option Value}, s₁.heap.Ns c m → (hidT s₁.heap H).Ns c m := by
    rintro c m ⟨o, es, ep, e, d, r⟩
    exact ⟨o, es, ep, dict e d, d, r⟩
  have kin : K.In (hidT s₁.heap H) := fun c o e => hidT_get (KX c o e) (Classical.byContradiction fun z => by
    have q := (off c o (KX c o e) z).1
    rw [e] at q
    cases q)
  obtain ⟨mc, n1, n2⟩ := hlim
  exact ⟨kin, names hns, kin, names hns, ⟨mb, names hb, hbb⟩, ⟨mc, names n1, n2⟩⟩
/-- the law from its def's promise, from a tracked heap of frozen things alone -/
theorem law_at (U : Und K mg s₁.heap H) (hg : s₁.gens = #[]) (hr : Room k callerA)
    (F : ∀ base : Heap, K.In base → base.Ns mainGlobals mg → FnG P w K mg base k fa fd [x] (spOf K 1 g)) (hbind : ∀ (s : Shared) (u : Value), BindsTo s fd ⟨[u], []⟩ [(x, u)])
    (hok : HOk P w H s₁.heap) (hO : ∀ c u, H c = some u → ∃ o xs, u = .frz o (.lst xs)) (hS : FzL K (fun _ => False) H a (ns.map V.int)) (hl : ∃ s', g [.d (.list (ns.map .int))] [] = some (.d (.bool true), s')) :
    codeAny (model P w) callerA (.call (.ref fa) ⟨[.ref a], []⟩) (fun r s' => r = .ok (.ret (.bool true)) ∧ OldK s₁.heap s'.heap ∧ s'.os = s₁.os ∧ AllBare s'.gens) s₁ := by
  obtain ⟨sto', hgv⟩ := hl
  have env : Env0 P w K mg (hidT s₁.heap H) callerA [] s₁ H :=
    { frames := rfl, mod := U.mod, bs := fun _ _ e => of_hidT e, bsz := Nat.le_of_eq (hidT_size _ _), funs := trivial, frf := fun c hc => absurd (show c ∈ ([] : List Addr) from hc) List.not_mem_nil, hok := hok, bare := .of_eq hg }
  have call := (F _ U.kin U.main).run callerA [] s₁ H ⟨[.ref a], []⟩ [.ref a] [.ref a] (fun v _ => v = .bl true) hr rfl env (hbind s₁ (.ref a)) (.cons rfl .nil)
    ⟨none, fun _ => False, [.d (.list (ns.map .int))], [], .d (.bool true), sto', rfl, .cons (.lst hS (ImA.ints ns)) .nil, ⟨fun _ e => (nomatch e), fun _ e => (nomatch e), fun _ z => False.elim z⟩, hgv, fun v _ _ _ _ i => by cases i; rfl⟩
  refine codeAny_mono call fun r s' h => ?_
  match r, h with
  | .ok (.ret u), ⟨v, H', os, bare, un, hok', rv, q⟩ =>
    subst q
    refine ⟨by cases rv; rfl, .of_keep fun c o e => ?_, os, bare⟩
    cases hc : H c with
    | none => exact un.keep c o e hc (fun z => absurd (show c ∈ ([] : List Addr) from z) List.not_mem_nil) (by simp)
    | some u =>
      obtain ⟨ob, ys, rfl⟩ := hO c u hc
      have e1 := (hok c _ hc).1
      have e2 := (hok' c _ (un.frzs c ob _ hc)).1
      rw [e] at e1
      cases e1
      exact e2
end
end Dh
namespace Dh
open PySem PySem.Spec L2 PySem.W PyProof.Rows
theorem law_end {l : PySem.W.OpenLaw} {n k : Nat} {q : Program} {loose : List Str} {XP : (Str → Option Value) → Heap → Prop} {YP : World → Heap → Prop} {d : DefRec} {K : Params → PySem.W.Frag} {x : Str} {g : Fx}
    (hn : l.most = some n) (small : n ≤ sizeLine) (nodef : d.params.defaults = []) (room : Room k callerA) (hY : ∀ (w : World) (h : Heap), YP w h → (K w.params).In h)
    (plain : ∀ ns : List Int, ns.length ≤ n → (∀ z ∈ ns, Builtin.Int.intBits z ≤ 1048576) → ∃ s', g [.d (.list (ns.map .int))] [] = some (.d (.bool true), s'))
    (F : ∀ (w : World) (mg : Str → Option Value) (fa : Addr) (h : Heap), (K w.params).In h → h.Ns mainGlobals mg → mg d.name = some (.ref fa) →
      ∃ fd : FuncData, (∀ (s : Shared) (u : Value), BindsTo s fd ⟨[u], []⟩ [(x, u)]) ∧ ∀ base : Heap, (K w.params).In base → base.Ns mainGlobals mg → FnG l.prog w (K w.params) mg base k fa fd [x] (spOf (K w.params) 1 g)) :
    PySem.W.WalkO q loose XP YP l.row.toRowW d [] (fun f vs => PySem.call f vs) := by
  refine Att.attach_callB hn nodef ?_
  intro w s₀ s mg mb fa o pm cd doc a vs ns G Y ho hd hcd hmg hobj hints hlen hbits hg
  have KX := hY w s.heap Y
  obtain ⟨fd, hb, hF⟩ := F w mg fa s.heap KX G.T.g hmg
  have vals := vals_ints hints
  have hl := plain ns hlen hbits
  cases hk : (K w.params).lookup a with
  | some ob =>
    have eo := KX a ob hk
    rw [hobj] at eo
    cases eo
    have U : Und (K w.params) mg s.heap (fun _ => none) := und_of KX G.T.g G.T.b G.T.builtins G.T.nolimit fun c o _ z => absurd rfl z
    refine law_at U hg room hF hb (fun c u z => ?_) (fun c u z => ?_) (.inr (.inr ⟨_, vs.toArray, _, hk, rfl, rfl, rfl, ?_, ?_⟩)) hl
    · cases (show (none : Option HO) = some u from z)
    · cases (show (none : Option HO) = some u from z)
    · rw [List.size_toArray, hints.length]
      exact Nat.le_trans hlen small
    · simpa using vals
  | none =>
    have U : Und (K w.params) mg s.heap (oneH a (.frz { cls := .type "list", data := .seq vs.toArray } (.lst (ns.map V.int)))) := by
      refine und_of KX G.T.g G.T.b G.T.builtins G.T.nolimit fun c o e z => ?_
      cases hc : oneH a (.frz { cls := .type "list", data := .seq vs.toArray } (.lst (ns.map V.int))) c with
      | none => exact absurd hc z
      | some u =>
        obtain ⟨rfl, _⟩ := oneH_some hc
        rw [hobj] at e
        cases e
        exact ⟨hk, fun es ep z => nomatch z⟩
    refine law_at U hg room hF hb (fun c u z => ?_) (fun c u z => ?_) (.inr (.inl ⟨_, oneH_self⟩)) hl
    · obtain ⟨rfl, rfl⟩ := oneH_some z
      exact ⟨hobj, by rw [List.length_map]; exact Nat.le_trans hlen small, vs, _, vals, hobj⟩
    · obtain ⟨_, rfl⟩ := oneH_some z
      exact ⟨_, _, rfl⟩
end Dh
namespace Dh
open PySem PySem.Spec L2 PySem.W
section
variable {α β : Type} {ρ : Ev} {s : Sto} {i j k : Nat} {a b : Mx} {ta tb : Mt} {as : Ma} {x y : R} {d e : PyData} {ma mb : Ms}
@[simp] theorem ev_bnd {a : Ev → Sto → Option (α × Sto)} {f : α → Ev → Sto → Option (β × Sto)} : bnd a f ρ s = (match a ρ s with | some (x, s1) => f x ρ s1 | none => none) := rfl
@[simp] theorem ev_ret {x : Option α} : ret x s = (match x with | some y => some (y, s) | none => none) := rfl
@[simp] theorem ev_m1 {f : R → Option R} : m1 f a ρ s = (match a ρ s with | some (x, s1) => ret (f x) s1 | none => none) := by
  unfold m1 bnd
  rcases a ρ s with _ | ⟨_, _⟩ <;> rfl
@[simp] theorem ev_m2 {f : R → R → Option R} : m2 f a b ρ s = (match a ρ s with | some (x, s1) => (match b ρ s1 with | some (y, s2) => ret (f x y) s2 | none => none) | none => none) := by
  unfold m2 bnd
  rcases a ρ s with _ | ⟨_, s1⟩
  · rfl
  · dsimp only
    rcases b ρ s1 with _ | ⟨_, _⟩ <;> rfl
@[simp] theorem ev_mA {f : List R → Option R} : mA f as ρ s = (match as ρ s with | some (x, s1) => ret (f x) s1 | none => none) := by
  unfold mA bnd
  rcases as ρ s with _ | ⟨_, _⟩ <;> rfl
@[simp] theorem ev_maNil : maNil ρ s = some ([], s) := rfl
@[simp] theorem ev_maCons : maCons a as ρ s = (match a ρ s with | some (x, s1) => (match as ρ s1 with | some (xs, s2) => some (x :: xs, s2) | none => none) | none => none) := by
  unfold maCons bnd
  rcases a ρ s with _ | ⟨_, s1⟩
  · rfl
  · dsimp only
    rcases as ρ s1 with _ | ⟨_, _⟩ <;> rfl
@[simp] theorem ev_mVar : mVar i ρ s = (match ρ[i]? with | some (some c) => some (rdCl c, s) | _ => none) := rfl
@[simp] theorem ev_mKon : mKon d ρ s = some (.d d, s) := rfl
@[simp] theorem ev_rdCl_d : rdCl (.d d) = .d d := rfl
@[simp] theorem ev_rdCl_s : rdCl .s = .s := rfl
@[simp] theorem ev_rdCl_o {xs : List PyData} : rdCl (.o xs) = .b xs := rfl
@[simp] theorem ev_bT : bT a ρ s = (match a ρ s with | some (.d (.bool k), s1) => some (k, s1) | _ => none) := by
  unfold bT bnd
  cases a ρ s with
  | none => rfl
  | some p =>
    obtain ⟨x, s1⟩ := p
    cases x with
    | d z => cases z <;> rfl
    | f _ => rfl
    | b _ => rfl
    | s => rfl
    | m _ => rfl
    | n _ => rfl
@[simp] theorem ev_fI {g : Int → Int → Option PyData} {i j : Int} : fI g (.d (.int i)) (.d (.int j)) = (g i j).map .d := rfl
@[simp] theorem ev_gMns {i j : Int} : gMns i j = some (.int (i - j)) := rfl
@[simp] theorem ev_gLt {i j : Int} : gLt i j = some (.bool (decide (i < j))) := rfl
@[simp] theorem ev_gLe {i j : Int} : gLe i j = some (.bool (decide (i ≤ j))) := rfl
@[simp] theorem ev_gGt {i j : Int} : gGt i j = some (.bool (decide (j < i))) := rfl
@[simp] theorem ev_gGe {i j : Int} : gGe i j = some (.bool (decide (j ≤ i))) := rfl
@[simp] theorem ev_fNeg {i : Int} : fNeg (.d (.int i)) = some (.d (.int (-i))) := rfl
@[simp] theorem ev_fNot {k : Bool} : fNot (.d (.bool k)) = some (.d (.bool (!k))) := rfl
@[simp] theorem ev_rdL1 {xs : List PyData} : rdL (.d (.list xs)) = some xs := rfl
@[simp] theorem ev_rdL2 {xs : List PyData} : rdL (.f xs) = some xs := rfl
@[simp] theorem ev_rdL3 {xs : List PyData} : rdL (.b xs) = some xs := rfl
@[simp] theorem ev_rdQ1 {xs : List PyData} : rdQ (.d (.list xs)) = some xs := rfl
@[simp] theorem ev_rdQ2 {xs : List PyData} : rdQ (.f xs) = some xs := rfl
@[simp] theorem ev_rdQ3 {xs : List PyData} : rdQ (.b xs) = some xs := rfl
@[simp] theorem ev_rdQ4 {xs : List PyData} : rdQ (.d (.tuple xs)) = some xs := rfl
@[simp] theorem ev_rdD1 : rdD (.d d) = some d := rfl
@[simp] theorem ev_rdD2 {xs : List PyData} : rdD (.f xs) = some (.list xs) := rfl
@[simp] theorem ev_rdD3 {xs : List PyData} : rdD (.b xs) = some (.list xs) := rfl
@[simp] theorem ev_toD1 : toD (.d d) = some d := rfl
@[simp] theorem ev_toD2 {xs : List PyData} : toD (.f xs) = some (.list xs) := rfl
@[simp] theorem ev_toDs0 : toDs [] = some [] := rfl
@[simp] theorem ev_toDs1 {rs : List R} : toDs (x :: rs) = (match toD x, toDs rs with | some x, some xs => some (x :: xs) | _, _ => none) := rfl
@[simp] theorem ev_toCl1 : toCl (.d d) = some (.d d) := rfl
@[simp] theorem ev_toCl2 {xs : List PyData} : toCl (.f xs) = some (.o xs) := rfl
@[simp] theorem ev_toCl3 : toCl .s = some .s := rfl
@[simp] theorem ev_toArg1 : toArg (.d d) = some (.d d) := rfl
@[simp] theorem ev_toArg2 {xs : List PyData} : toArg (.f xs) = some (.d (.list xs)) := rfl
@[simp] theorem ev_toArg3 : toArg .s = some .s := rfl
@[simp] theorem ev_toArgs0 : toArgs [] = some [] := rfl
@[simp] theorem ev_toArgs1 {rs : List R} : toArgs (x :: rs) = (match toArg x, toArgs rs with | some x, some xs => some (x :: xs) | _, _ => none) := rfl
@[simp] theorem ev_mCall {g : Fx} : mCall g as ρ s = (match as ρ s with | some (rs, s1) => (match toArgs rs with | some cs => g cs s1 | none => none) | none => none) := by
  unfold mCall bnd
  rcases as ρ s with _ | ⟨_, _⟩ <;> rfl
@[simp] theorem ev_tAnd2 : tAnd2 ta tb ρ s = (match ta ρ s with | some (true, s1) => tb ρ s1 | some (false, s1) => some (false, s1) | none => none) := by
  unfold tAnd2 bnd
  rcases ta ρ s with _ | ⟨_ | _, _⟩ <;> rfl
@[simp] theorem ev_tOr2 : tOr2 ta tb ρ s = (match ta ρ s with | some (false, s1) => tb ρ s1 | some (true, s1) => some (true, s1) | none => none) := by
  unfold tOr2 bnd
  rcases ta ρ s with _ | ⟨_ | _, _⟩ <;> rfl
@[simp] theorem ev_tNot2 : tNot2 ta ρ s = (match ta ρ s with | some (k, s1) => some (!k, s1) | none => none) := by
  unfold tNot2 bnd
  rcases ta ρ s with _ | ⟨_, _⟩ <;> rfl
@[simp] theorem ev_mIf : mIf ta a b ρ s = (match ta ρ s with | some (true, s1) => a ρ s1 | some (false, s1) => b ρ s1 | none => none) := by
  unfold mIf bnd
  rcases ta ρ s with _ | ⟨_ | _, _⟩ <;> rfl
@[simp] theorem ev_mAnd : mAnd a b ρ s = (match a ρ s with | some (.d (.bool true), s1) => b ρ s1 | some (.d (.bool false), s1) => some (.d (.bool false), s1) | _ => none) := by
  unfold mAnd bnd
  cases a ρ s with
  | none => rfl
  | some p =>
    obtain ⟨x, s1⟩ := p
    cases x with
    | d z =>
      cases z with
      | bool k => cases k <;> rfl
      | _ => rfl
    | f _ => rfl
    | b _ => rfl
    | s => rfl
    | m _ => rfl
    | n _ => rfl
@[simp] theorem ev_mOr : mOr a b ρ s = (match a ρ s with | some (.d (.bool false), s1) => b ρ s1 | some (.d (.bool true), s1) => some (.d (.bool true), s1) | _ => none) := by
  unfold mOr bnd
  cases a ρ s with
  | none => rfl
  | some p =>
    obtain ⟨x, s1⟩ := p
    cases x with
    | d z =>
      cases z with
      | bool k => cases k <;> rfl
      | _ => rfl
    | f _ => rfl
    | b _ => rfl
    | s => rfl
    | m _ => rfl
    | n _ => rfl
@[simp] theorem ev_mSeq : mSeq ma mb ρ s = (match ma ρ s with | some (.nx, ρ1, s1) => mb ρ1 s1 | some r => some r | none => none) := rfl
@[simp] theorem ev_mNil : mNil ρ s = some (.nx, ρ, s) := rfl
@[simp] theorem ev_mIfS : mIfS ta ma mb ρ s = (match ta ρ s with | some (true, s1) => ma ρ s1 | some (false, s1) => mb ρ s1 | none => none) := rfl
@[simp] theorem ev_mRet : mRet a ρ s = (match a ρ s with | some (.d x, s1) => some (.rt (.d x), ρ, s1) | some (.f xs, s1) => some (.rt (.f xs), ρ, s1) | _ => none) := rfl
@[simp] theorem ev_mRetV : mRetV i ρ s = (match ρ[i]? with | some (some (.d x)) => some (.rt (.d x), ρ, s) | some (some (.o xs)) => some (.rt (.f xs), ρ, s) | _ => none) := rfl
@[simp] theorem ev_mSet : mSet i a ρ s = (match a ρ s with | some (r, s1) => (match toCl r with | some c => some (.nx, ρ.set i (some c), s1) | none => none) | none => none) := rfl
@[simp] theorem ev_mYes : mYes ρ s = some (true, s) := rfl
@[simp] theorem ev_mFor {it : Mi} {g : Gx} : mFor it g ma ρ s = (match it ρ s with | some (xs, s1) => forRun g ma xs ρ s1 | none => none) := rfl
@[simp] theorem ev_mSeqI : mSeqI a ρ s = (match a ρ s with | some (x, s1) => ret (itemsOf x) s1 | none => none) := by
  unfold mSeqI bnd
  rcases a ρ s with _ | ⟨_, _⟩ <;> rfl
@[simp] theorem ev_mArgI {f : List R → Option (List PyData)} : mArgI f as ρ s = (match as ρ s with | some (x, s1) => ret (f x) s1 | none => none) := by
  unfold mArgI bnd
  rcases as ρ s with _ | ⟨_, _⟩ <;> rfl
@[simp] theorem ev_items1 {xs : List PyData} : itemsOf (.d (.list xs)) = some xs := rfl
@[simp] theorem ev_items2 {xs : List PyData} : itemsOf (.d (.tuple xs)) = some xs := rfl
@[simp] theorem ev_items3 {xs : List PyData} : itemsOf (.f xs) = some xs := rfl
@[simp] theorem ev_gN : gN i d ρ = some (ρ.set i (some (.d d))) := rfl
@[simp] theorem ev_gT {n : Nat} {g : Gxs} {xs : List PyData} : gT n g (.tuple xs) ρ = if xs.length = n then g xs ρ else none := rfl
@[simp] theorem ev_gsNil : gsNil [] ρ = some ρ := rfl
@[simp] theorem ev_gsCons {g : Gx} {r : Gxs} {xs : List PyData} : gsCons g r (d :: xs) ρ = (match g d ρ with | some ρ1 => r xs ρ1 | none => none) := rfl
@[simp] theorem ev_mIx : mIx a b ρ s = (match a ρ s with | some (x, s1) => (match b ρ s1 with | some (y, s2) => (match fIx s2 x y with | some z => some (z, s2) | none => none) | none => none) | none => none) := by
  unfold mIx bnd
  rcases a ρ s with _ | ⟨_, s1⟩
  · rfl
  · dsimp only
    rcases b ρ s1 with _ | ⟨_, _⟩ <;> rfl
@[simp] theorem ev_fIxT {xs : List PyData} {i : Int} : fIx s (.d (.tuple xs)) (.d (.int i)) = (atI xs i).map R.d := by
  show (match rdQ (.d (.tuple xs)) with | some xs => (atI xs i).map R.d | none => none) = _
  rfl
@[simp] theorem ev_fIxL {xs : List PyData} {i : Int} : fIx s (.d (.list xs)) (.d (.int i)) = (atI xs i).map R.d := rfl
@[simp] theorem ev_fIxB {xs : List PyData} {i : Int} : fIx s (.b xs) (.d (.int i)) = (atI xs i).map R.d := rfl
@[simp] theorem ev_fIxF {xs : List PyData} {i : Int} : fIx s (.f xs) (.d (.int i)) = (atI xs i).map R.d := rfl
@[simp] theorem ev_fIxS {i : Int} : fIx s .s (.d (.int i)) = (atI s i).map fun j => .d (.int j) := rfl
@[simp] theorem ev_atI0 {x : α} {xs : List α} : atI (x :: xs) 0 = some x := by
  unfold atI ixN
  simp
@[simp] theorem ev_atI1 {x y : α} {xs : List α} : atI (x :: y :: xs) 1 = some y := by
  have h : (1 : Int) < (xs.length : Int) + 1 + 1 := by omega
  unfold atI ixN
  simp [h]
@[simp] theorem ev_atI2 {x y z : α} {xs : List α} : atI (x :: y :: z :: xs) 2 = some z := by
  have h : (2 : Int) < (xs.length : Int) + 1 + 1 + 1 := by omega
  unfold atI ixN
  simp [h]
@[simp] theorem ev_fLen : fLen [x] = (rdQ x).map fun xs => .d (.int xs.length) := rfl
@[simp] theorem ev_fIsi {T : String} : fIsi T x = (rdD x).map fun d => .d (.bool (isA T d)) := rfl
@[simp] theorem ev_fTup {rs : List R} : fTup rs = (match toDs rs with | some xs => if xs.length ≤ sizeLine then some (.d (.tuple xs)) else none | none => none) := rfl
@[simp] theorem ev_fLst {rs : List R} : fLst rs = (match toDs rs with | some xs => if xs.length ≤ sizeLine then some (.f xs) else none | none => none) := rfl
@[simp] theorem ev_fGcd {i j : Int} : fGcd [.d (.int i), .d (.int j)] = some (.d (.int ((Nat.gcd i.natAbs j.natAbs : Nat) : Int))) := rfl
@[simp] theorem ev_fAbs {i : Int} : fAbs [.d (.int i)] = some (.d (.int (if i < 0 then -i else i))) := rfl
@[simp] theorem ev_fInt {i : Int} : fInt [.d (.int i)] = some (.d (.int i)) := rfl
@[simp] theorem ev_fTupOf1 {xs : List PyData} : fTupOf [.f xs] = some (.d (.tuple xs)) := rfl
@[simp] theorem ev_fTupOf2 {xs : List PyData} : fTupOf [.b xs] = some (.d (.tuple xs)) := rfl
@[simp] theorem ev_fTupOf3 {xs : List PyData} : fTupOf [.d (.list xs)] = some (.d (.tuple xs)) := rfl
@[simp] theorem ev_fTupOf4 {xs : List PyData} : fTupOf [.d (.tuple xs)] = some (.d (.tuple xs)) := rfl
@[simp] theorem ev_fAddI {i j : Int} : fAdd (.d (.int i)) (.d (.int j)) = some (.d (.int (i + j))) := rfl
@[simp] theorem ev_fAddT {xs ys : List PyData} : fAdd (.d (.tuple xs)) (.d (.tuple ys)) = if xs.length + ys.length ≤ sizeLine then some (.d (.tuple (xs ++ ys))) else none := rfl
@[simp] theorem ev_fMulI {i j : Int} : fMul (.d (.int i)) (.d (.int j)) = if mulOk i j = true then some (.d (.int (i * j))) else none := rfl
@[simp] theorem ev_mCnt : mCnt ρ s = some (.ct, ρ, s) := rfl
@[simp] theorem ev_mRetN : mRetN ρ s = some (.rt (.d .none), ρ, s) := rfl
@[simp] theorem ev_forNil {g : Gx} : forRun g ma [] ρ s = some (.nx, ρ, s) := rfl
@[simp] theorem ev_lcNil {vs : List Nat} {g : Gx} : lcRun vs g ta a [] ρ s = some ([], s) := rfl
@[simp] theorem ev_mFrz {is : List Nat} : mFrz is ma ρ s = ma (frzs ρ is) s := rfl
@[simp] theorem ev_wipe0 : wipeE ρ [] = ρ := rfl
@[simp] theorem ev_wipe1 {v : Nat} {vs : List Nat} : wipeE ρ (v :: vs) = (wipeE ρ vs).set v none := rfl
@[simp] theorem ev_isA_int_int {i : Int} : isA "int" (.int i) = true := rfl
@[simp] theorem ev_isA_int_bool {k : Bool} : isA "int" (.bool k) = true := rfl
@[simp] theorem ev_isA_int_none : isA "int" .none = false := rfl
@[simp] theorem ev_isA_int_str {x : Str} : isA "int" (.str x) = false := rfl
@[simp] theorem ev_isA_int_list {xs : List PyData} : isA "int" (.list xs) = false := rfl
@[simp] theorem ev_isA_int_tuple {xs : List PyData} : isA "int" (.tuple xs) = false := rfl
@[simp] theorem ev_isA_int_dict {xs : List (PyData × PyData)} : isA "int" (.dict xs) = false := rfl
@[simp] theorem ev_isA_bool_int {i : Int} : isA "bool" (.int i) = false := rfl
@[simp] theorem ev_isA_bool_bool {k : Bool} : isA "bool" (.bool k) = true := rfl
@[simp] theorem ev_isA_bool_none : isA "bool" .none = false := rfl
@[simp] theorem ev_isA_bool_str {x : Str} : isA "bool" (.str x) = false := rfl
@[simp] theorem ev_isA_bool_list {xs : List PyData} : isA "bool" (.list xs) = false := rfl
@[simp] theorem ev_isA_bool_tuple {xs : List PyData} : isA "bool" (.tuple xs) = false := rfl
@[simp] theorem ev_isA_bool_dict {xs : List (PyData × PyData)} : isA "bool" (.dict xs) = false := rfl
@[simp] theorem ev_isA_tuple_int {i : Int} : isA "tuple" (.int i) = false := rfl
@[simp] theorem ev_isA_tuple_bool {k : Bool} : isA "tuple" (.bool k) = false := rfl
@[simp] theorem ev_isA_tuple_none : isA "tuple" .none = false := rfl
@[simp] theorem ev_isA_tuple_str {x : Str} : isA "tuple" (.str x) = false := rfl
@[simp] theorem ev_isA_tuple_list {xs : List PyData} : isA "tuple" (.list xs) = false := rfl
@[simp] theorem ev_isA_tuple_tuple {xs : List PyData} : isA "tuple" (.tuple xs) = true := rfl
@[simp] theorem ev_isA_tuple_dict {xs : List (PyData × PyData)} : isA "tuple" (.dict xs) = false := rfl
end
end Dh
namespace Dh
open PySem PySem.Spec L2
end Dh
namespace Dh
open PySem PySem.Spec L2
def lcRun2 (vs vs1 : List Nat) (g : Gx) (t : Mt) (it1 : Mi) (g1 : Gx) (t1 : Mt) (e : Mx) : List PyData → Ev → Sto → Option (List PyData × Sto)
  | [] => fun _ s => some ([], s)
  | x :: xs => fun ρ s => match g x (wipeE ρ vs) with
    | none => none
    | some ρ1 => match t ρ1 s with
      | none => none
      | some (false, s1) => lcRun2 vs vs1 g t it1 g1 t1 e xs ρ s1
      | some (true, s1) => match it1 ρ1 s1 with
        | none => none
        | some (zs, s2) => match lcRun vs1 g1 t1 e zs ρ1 s2 with
          | none => none
          | some (ys, s3) => match lcRun2 vs vs1 g t it1 g1 t1 e xs ρ s3 with
            | none => none
            | some (ys', s4) => some (ys ++ ys', s4)
def mLc2 (it : Mi) (vs : List Nat) (g : Gx) (t : Mt) (it1 : Mi) (vs1 : List Nat) (g1 : Gx) (t1 : Mt) (e : Mx) : Mx := fun ρ s => match it ρ s with
  | some (xs, s1) => match lcRun2 vs vs1 g t it1 g1 t1 e xs ρ s1 with
    | some (ys, s2) => if ys.length ≤ sizeLine then some (.f ys, s2) else none
    | none => none
  | none => none
end Dh
namespace Dh
open PySem PySem.Spec L2
def fIn (neg : Bool) : R → R → Option R := fun x y => match rdD x, y with
  | some d, .d (.tuple ds) => if eqOk d = true ∧ eqOk (.tuple ds) = true then some (.d (.bool (if neg then !(ds.any fun z => PyData.eqv z d) else ds.any fun z => PyData.eqv z d))) else none
  | some d, y => match rdL y with
    | some ds => if eqOk d = true ∧ eqOk (.list ds) = true then some (.d (.bool (if neg then !(ds.any fun z => PyData.eqv z d) else ds.any fun z => PyData.eqv z d))) else none
    | none => none
  | _, _ => none
def rInT (K : PySem.W.Frag) (neg : Bool) : R2 := fun x y H Q => ∃ d ds, Dp K H x d ∧ Dp K H y (.tuple ds) ∧ SeqAt.shaped d = true ∧ SeqAt.shaped (.tuple ds) = true ∧ Q (.bl (if neg then !(ds.any fun z => PyData.eqv z d) else ds.any fun z => PyData.eqv z d)) H
section
variable {X : Cx}
theorem op_inT (hu : X.A.units + 65 < cLine) : OpR X (compareOp .In) (rInT X.K false) := by
  intro pins s σ H x y v u Q I rx ry h
  obtain ⟨d, ds, hd, he, sd, se, q⟩ := h
  obtain ⟨as, r1⟩ := Dp.reads I d x v hd rx
  obtain ⟨bs, r2⟩ := Dp.reads I (.tuple ds) y u he ry
  exact SeqAt.in_tuple_reads r2 r1 (SeqAt.canLay_of_shaped se) (SeqAt.canLay_of_shaped sd) (by have h1 := SeqAt.depth_of_shaped sd; have h2 := Nat.min_le_right (PyData.depthAll ds) d.depth; omega) ⟨.bl _, H, I, rfl, q⟩
theorem op_notInT (hu : X.A.units + 65 < cLine) : OpR X (compareOp .NotIn) (rInT X.K true) := by
  intro pins s σ H x y v u Q I rx ry h
  obtain ⟨d, ds, hd, he, sd, se, q⟩ := h
  obtain ⟨as, r1⟩ := Dp.reads I d x v hd rx
  obtain ⟨bs, r2⟩ := Dp.reads I (.tuple ds) y u he ry
  exact SeqAt.notIn_tuple_reads r2 r1 (SeqAt.canLay_of_shaped se) (SeqAt.canLay_of_shaped sd) (by have h1 := SeqAt.depth_of_shaped sd; have h2 := Nat.min_le_right (PyData.depthAll ds) d.depth; omega) ⟨.bl _, H, I, rfl, q⟩
def rInB (K : PySem.W.Frag) (neg : Bool) : R2 := fun x y H Q => (if neg then rNotInD K x y H Q else rInD K x y H Q) ∨ rInT K neg x y H Q
theorem op_inB (hu : X.A.units + 65 < cLine) : OpR X (compareOp .In) (rInB X.K false) := (op_inD hu).or (op_inT hu)
theorem op_notInB (hu : X.A.units + 65 < cLine) : OpR X (compareOp .NotIn) (rInB X.K true) := (op_notInD hu).or (op_notInT hu)
theorem eqOk_of2 {d : PyData} (h : eqOk d = true) : noDict d = true ∧ SeqAt.shaped d = true := by
  simpa [eqOk] using h
theorem rdL_rdD {y : R} {ds : List PyData} (h : rdL y = some ds) : rdD y = some (.list ds) := by
  unfold rdL at h
  split at h <;> first | (cases h; rfl) | cases h
theorem ok_in (neg : Bool) : Ok2 X.K (rInB X.K neg) (fIn neg) := by
  intro sp fz H H0 sto v w x y z Q B ix iy h k
  unfold fIn at h
  split at h
  · rename_i d ds hd
    split at h
    · rename_i hz
      cases h
      have a := eqOk_of2 hz.1
      have b := eqOk_of2 hz.2
      exact .inr ⟨d, ds, ix.dp hd a.1, iy.dp rfl b.1, a.2, b.2, k _ fz H .refl B.spl (.bl _)⟩
    · cases h
  · rename_i d hd _
    split at h
    · rename_i ds hl
      split at h
      · rename_i hz
        cases h
        have a := eqOk_of2 hz.1
        have b := eqOk_of2 hz.2
        cases neg with
        | true => exact .inl ⟨d, ds, ix.dp hd a.1, iy.dp (rdL_rdD hl) b.1, a.2, b.2, k _ fz H .refl B.spl (.bl _)⟩
        | false => exact .inl ⟨d, ds, ix.dp hd a.1, iy.dp (rdL_rdD hl) b.1, a.2, b.2, k _ fz H .refl B.spl (.bl _)⟩
      · cases h
    · cases h
  · cases h
theorem units65 {A : Around} {k : Nat} (hr : Room k A) : A.units + 65 < cLine := by
  have := hr.un
  omega
variable {a b : Expr} {ma mb : Mx} {pos : Pos}
theorem se_in {k : Nat} (hr : Room k X.A) (ha : SE X a ma) (hb : SE X b mb) (hm : behindInMarks .In b = false := by rfl) : SE X (.Compare a [.In] [b] pos) (m2 (fIn false) ma mb) := se_cmp (op_inB (units65 hr)) (ok_in false) ha hb hm
theorem sb_in {k : Nat} (hr : Room k X.A) (ha : SE X a ma) (hb : SE X b mb) (hm : behindInMarks .In b = false := by rfl) : SB X (.Compare a [.In] [b] pos) (bT (m2 (fIn false) ma mb)) := sb_cmp (op_inB (units65 hr)) (ok_in false) ha hb hm
theorem sb_notin {k : Nat} (hr : Room k X.A) (ha : SE X a ma) (hb : SE X b mb) (hm : behindInMarks .NotIn b = false := by rfl) : SB X (.Compare a [.NotIn] [b] pos) (bT (m2 (fIn true) ma mb)) := sb_cmp (op_notInB (units65 hr)) (ok_in true) ha hb hm
end
end Dh
namespace Dh
open PySem PySem.Spec L2
def putP (acc : List (Key × PyData)) (k : Key) (d : PyData) : List (Key × PyData) :=
  if (acc.any fun p => decide (p.1 = k)) = true then acc.map (fun p => if p.1 = k then (p.1, d) else p) else acc ++ [(k, d)]
def valP (acc : List (Key × PyData)) (k : Key) : Option PyData := (acc.find? fun p => decide (p.1 = k)).map (·.2)
def keyP : R → Option Key
  | .d (.int i) => some (.inl i)
  | .d (.str x) => some (.inr x)
  | _ => none
def kP : Key → PyData
  | .inl i => .int i
  | .inr x => .str x
def dOf (acc : List (Key × PyData)) : PyData := .dict (acc.map fun p => (kP p.1, p.2))
section
variable {K : PySem.W.Frag} {C : Cn} {sp : Option Addr} {fz fz1 : Fz} {ρ : Ev} {sto sto' : Sto} {σ : L2.St} {H H0 H1 : Hp}
theorem kP_im : ∀ k : Key, Im K fz H (kV k) (kP k)
  | .inl i => .int i
  | .inr x => .str x
theorem keys_im : ∀ {ks : List Key}, ImA K fz H (ks.map kV) (ks.map kP)
  | [] => .nil
  | k :: ks => .cons (kP_im k) keys_im
theorem ImK.keys {kvs : List (Key × V)} {acc : List (Key × PyData)} (h : ImK K fz H kvs acc) : ImA K fz H (kvs.map fun p => kV p.1) ((acc.map fun p => (kP p.1, p.2)).map (·.1)) := by
  have e1 : (kvs.map fun p => kV p.1) = (kvs.map (·.1)).map kV := by rw [List.map_map]; rfl
  have e2 : ((acc.map fun p => (kP p.1, p.2)).map (·.1)) = (acc.map (·.1)).map kP := by rw [List.map_map, List.map_map]; rfl
  rw [e1, e2, h.1]
  exact keys_im
theorem ImK.vals {kvs : List (Key × V)} {acc : List (Key × PyData)} (h : ImK K fz H kvs acc) : ImA K fz H (kvs.map (·.2)) ((acc.map fun p => (kP p.1, p.2)).map (·.2)) := by
  have e2 : ((acc.map fun p => (kP p.1, p.2)).map (·.2)) = acc.map (·.2) := by rw [List.map_map]; rfl
  rw [e2]
  exact h.2
theorem ImK.cons_inv {p : Key × V} {kvs : List (Key × V)} {acc : List (Key × PyData)} (h : ImK K fz H (p :: kvs) acc) : ∃ d acc', acc = (p.1, d) :: acc' ∧ Im K fz H p.2 d ∧ ImK K fz H kvs acc' := by
  obtain ⟨h1, h2⟩ := h
  cases acc with
  | nil => cases h1
  | cons q acc =>
    rw [List.map_cons, List.map_cons] at h1 h2
    cases h2 with
    | cons a b =>
      have e := List.cons.inj h1
      exact ⟨q.2, acc, by rw [e.1], a, e.2, b⟩
theorem ImK.any {k : Key} : ∀ {kvs : List (Key × V)} {acc : List (Key × PyData)}, ImK K fz H kvs acc → (kvs.any fun p => decide (p.1 = k)) = acc.any fun p => decide (p.1 = k)
  | [], acc, h => by
    have : acc = [] := List.map_eq_nil_iff.mp h.1.symm
    subst this; rfl
  | p :: kvs, acc, h => by
    obtain ⟨d, acc', rfl, _, h2⟩ := h.cons_inv
    rw [List.any_cons, List.any_cons, h2.any]
theorem ImK.over {k : Key} {v : V} {d : PyData} (i : Im K fz H v d) : ∀ {kvs : List (Key × V)} {acc : List (Key × PyData)}, ImK K fz H kvs acc → ImK K fz H (kvs.map fun kv => if kv.1 = k then (kv.1, v) else kv) (acc.map fun p => if p.1 = k then (p.1, d) else p)
  | [], acc, h => by
    have : acc = [] := List.map_eq_nil_iff.mp h.1.symm
    subst this; exact ⟨rfl, .nil⟩
  | p :: kvs, acc, h => by
    obtain ⟨e, acc', rfl, h1, h2⟩ := h.cons_inv
    obtain ⟨g1, g2⟩ := ImK.over i h2
    by_cases q : p.1 = k
    · refine ⟨?_, ?_⟩
      · simp only [List.map_cons, if_pos q]
        rw [g1]
      · simp only [List.map_cons, if_pos q]
        exact .cons i g2
    · refine ⟨?_, ?_⟩
      · simp only [List.map_cons, if_neg q]
        rw [g1]
      · simp only [List.map_cons, if_neg q]
        exact .cons h1 g2
theorem ImK.put {k : Key} {v : V} {d : PyData} {kvs : List (Key × V)} {acc : List (Key × PyData)} (h : ImK K fz H kvs acc) (i : Im K fz H v d) : ImK K fz H (putK kvs k v) (putP acc k d) := by
  unfold putK putP
  rw [h.any]
  split
  · exact ImK.over i h
  · refine ⟨?_, ?_⟩
    · rw [List.map_append, List.map_append, h.1]; rfl
    · rw [List.map_append, List.map_append]
      exact h.2.append (.cons i .nil)
theorem ImK.val {k : Key} : ∀ {kvs : List (Key × V)} {acc : List (Key × PyData)}, ImK K fz H kvs acc → (∀ v, valV kvs k = some v → ∃ d, valP acc k = some d ∧ Im K fz H v d) ∧ (valV kvs k = none → valP acc k = none)
  | [], acc, h => by
    have : acc = [] := List.map_eq_nil_iff.mp h.1.symm
    subst this; exact ⟨(fun v e => by cases e), fun _ => rfl⟩
  | p :: kvs, acc, h => by
    obtain ⟨d, acc', rfl, i, h2⟩ := h.cons_inv
    obtain ⟨g1, g2⟩ := h2.val (k := k)
    by_cases q : p.1 = k
    · refine ⟨fun v e => ?_, fun e => ?_⟩
      · rw [valV_pos q] at e
        cases e
        exact ⟨d, by simp [valP, q], i⟩
      · rw [valV_pos q] at e; cases e
    · refine ⟨fun v e => ?_, fun e => ?_⟩
      · rw [valV_neg q] at e
        obtain ⟨d', e1, e2⟩ := g1 v e
        exact ⟨d', by rw [← e1]; simp [valP, q], e2⟩
      · rw [valV_neg q] at e
        rw [← g2 e]
        simp [valP, q]
theorem ImK.stp (s : Stp sp fz H fz1 H1) (B : Bs sp fz H sto) {kvs : List (Key × V)} {acc : List (Key × PyData)} (h : ImK K fz H kvs acc) : ImK K fz1 H1 kvs acc := ⟨h.1, h.2.stp s B⟩
theorem ImK.sts (s : Sts sp fz H fz1 H1) (B : Bs sp fz H sto) {kvs : List (Key × V)} {acc : List (Key × PyData)} (h : ImK K fz H kvs acc) : ImK K fz1 H1 kvs acc := ⟨h.1, h.2.sts s B⟩
theorem ImK.len {kvs : List (Key × V)} {acc : List (Key × PyData)} (h : ImK K fz H kvs acc) : kvs.length = acc.length := by
  have := congrArg List.length h.1
  rwa [List.length_map, List.length_map] at this
/-- a dict that nobody owns is written -/
theorem Fm.sideD (F : Fm K C fz ρ sto σ H) {D : Addr} {ws : List (Key × V)} (hD : ∃ us, H D = some (.dK us)) (nf : ¬ fz D) (ns : some D ≠ C.sp) (n0 : C.H0 D = none) (no : ∀ (i : Nat) (acc : List (Key × PyData)), ρ[i]? = some (some (Cl.m acc)) → σ[i]? ≠ some (some (V.ref D))) :
    Fm K C fz ρ sto σ (upd H D (.dK ws)) ∧ Sts C.sp fz H fz (upd H D (.dK ws)) := by
  obtain ⟨us, hD⟩ := hD
  have S : Sts C.sp fz H fz (upd H D (.dK ws)) := ⟨fun _ q => q, fun b o q n c => by
    have : b ≠ D := fun z => by
      subst z
      rcases c with c | c
      · exact nf c
      · rw [hD] at q; cases q; exact c.2 _ rfl
    rw [upd_ne this]; exact q⟩
  refine ⟨⟨F.len, ⟨F.st.mono, fun b o q n => ?_, F.st.new, fun t b q z => ?_⟩, ⟨?_, F.bs.nsp, fun b q z => ?_⟩, fun j c q => ?_, F.sep⟩, S⟩
  · have : b ≠ D := fun z => by subst z; rw [n0] at q; cases q
    rw [upd_ne this]; exact F.st.ext b o q n
  · by_cases e : b = D
    · subst e; rw [upd_same] at z; cases z
    · rw [upd_ne e] at z; exact F.st.trk t b q z
  · exact F.bs.spl.upd ns
  · by_cases e : b = D
    · subst e; rw [upd_same] at z; cases z
    · rw [upd_ne e] at z; exact F.bs.trk b q z
  · have g := F.vars j c q
    cases c with
    | d x => obtain ⟨u, g1, g2⟩ := g; exact ⟨u, g1, g2.sts S F.bs⟩
    | o us =>
      obtain ⟨b, ts, g1, g2, g3, g4, g5, g6⟩ := g
      have : b ≠ D := fun z => by subst z; rw [hD] at g2; cases g2
      exact ⟨b, ts, g1, by rw [upd_ne this]; exact g2, g3.sts S F.bs, g4, g5, g6⟩
    | s => exact g
    | m acc =>
      obtain ⟨b, ts, g1, g2, g3, g4, g5, g6⟩ := g
      have : b ≠ D := fun z => by subst z; exact no j acc q g1
      exact ⟨b, ts, g1, by rw [upd_ne this]; exact g2, g3.sts S F.bs, g4, g5, g6⟩
end
def dcRun (vs : List Nat) (g : Gx) (t : Mt) (ek ev : Mx) : List PyData → List (Key × PyData) → Ev → Sto → Option (List (Key × PyData) × Sto)
  | [], acc => fun _ s => some (acc, s)
  | x :: xs, acc => fun ρ s => match g x (wipeE ρ vs) with
    | none => none
    | some ρ1 => match t ρ1 s with
      | none => none
      | some (false, s1) => dcRun vs g t ek ev xs acc ρ s1
      | some (true, s1) => match ek ρ1 s1 with
        | none => none
        | some (rk, s2) => match ev ρ1 s2 with
          | none => none
          | some (rv, s3) => match keyP rk, toD rv with
            | some k, some y => if acc.length < sizeLine then dcRun vs g t ek ev xs (putP acc k y) ρ s3 else none
            | _, _ => none
def mDc (it : Mi) (vs : List Nat) (g : Gx) (t : Mt) (ek ev : Mx) : Mx := fun ρ s => match it ρ s with
  | some (xs, s1) => match dcRun vs g t ek ev xs [] ρ s1 with
    | some (acc, s2) => some (.d (dOf acc), s2)
    | none => none
  | none => none
theorem keyP_im {K : PySem.W.Frag} {sp : Option Addr} {fz : Fz} {H H0 : Hp} {v : V} {r : R} {k : Key} (i : ImR K sp H0 fz H v r) (e : keyP r = some k) : v = kV k := by
  unfold keyP at e
  split at e
  · cases e; cases i; rfl
  · cases e; cases i; rfl
  · cases e
section
variable {K : PySem.W.Frag} {mi : Mi} {g : Gx} {is vs : List Nat} {mt : Mt} {mk mv : Mx}
/-- a dict comprehension: the new dict, nobody's yet -/
theorem rd_dcK (hs : ∀ i, i ∈ is → i ∈ vs) {C : Cn} {fz : Fz} {ρ : Ev} {sto s1 s2 : Sto} {xs : List PyData} {acc : List (Key × PyData)} {σ : L2.St} {H : Hp} {Q : VK} (F : Fm K C fz ρ sto σ H) (e1 : mi ρ sto = some (xs, s1)) (e2 : dcRun vs g mt mk mv xs [] ρ s1 = some (acc, s2))
    (k : ∀ (D : Addr) (fz' : Fz) (H' : Hp) (kvs : List (Key × V)), Stp C.sp fz H fz' H' → Bs C.sp fz' H' s2 → H' D = some (.dK kvs) → ImK K fz' H' kvs acc → ¬ fz' D → some D ≠ C.sp → H D = none → Q (.ref D) H') : tDc (rdI K mi) (rdG K is g) (rdT K mt) (rdE K mk) (rdE K mv) vs σ H Q := by
      refine ⟨C, fz, ρ, sto, xs, s1, F, e1, fun J fz1 H1 st1 l1 G => ?_⟩
      have F1 := F.step st1 l1
      intro D hD
      have nD : some D ≠ C.sp := l1.ne hD (by intro z; cases z)
      have n0 : C.H0 D = none := F1.st.back nD hD
      have nfz : ¬ fz1 D := fun z => F1.bs.trk D z hD
      have no : ∀ (i : Nat) (acc : List (Key × PyData)), ρ[i]? = some (some (Cl.m acc)) → σ[i]? ≠ some (some (V.ref D)) := fun i acc hi e => by
        obtain ⟨b, ws, g1, g2, _⟩ := F1.vars i _ hi
        rw [e] at g1; cases g1
        rw [hD] at g2; cases g2
      let W : Nat → Nat → Hp → Prop := fun i m H' => m = xs.length - i ∧ i ≤ xs.length ∧ ∃ (fz2 : Fz) (s3 : Sto) (kvs : List (Key × V)) (ya : List (Key × PyData)), Fm K C fz2 ρ s3 σ H' ∧ Stp C.sp fz1 H1 fz2 H' ∧
        H' D = some (.dK kvs) ∧ ImK K fz2 H' kvs ya ∧ ¬ fz2 D ∧ dcRun vs g mt mk mv (xs.drop i) ya ρ s3 = some (acc, s2)
      have st2 : Stp C.sp fz1 H1 fz1 (upd H1 D (.dK [])) := .laid hD
      have l2 : SpL C.sp (upd H1 D (.dK [])) s1 := l1.upd nD
      refine ⟨W, ⟨xs.length, by simp, Nat.zero_le _, fz1, s1, [], [], F1.step st2 l2, st2, upd_same, ⟨rfl, .nil⟩, nfz, e2⟩, ?_⟩
      rintro i m H2 ⟨rfl, hi, fz2, s3, kvs, ya, F2, S2, hD2, im2, nf2, e3⟩
      by_cases hlt : i < xs.length
      · have hx : xs[i]? = some xs[i] := List.getElem?_eq_getElem hlt
        rw [List.drop_eq_getElem_cons hlt] at e3
        unfold dcRun at e3
        split at e3
        · cases e3
        · rename_i ρ4 e4
          refine .inr ⟨G.go i fz2 H2 s3 hlt S2.sts F2.bs, fun H' => W (i + 1) (xs.length - (i + 1)) H', fun H' w => ⟨xs.length - (i + 1), by omega, w⟩, fun v H3 y => ?_⟩
          obtain ⟨st3, l3, im⟩ := G.yld i _ fz2 H2 s3 v H3 hx S2.sts F2.bs y
          have F3 := F2.step st3 l3
          refine ⟨C, fz2, wipeE ρ vs, s3, xs[i], ρ4, F3.wipe vs, im, e4, fun σ4 hl4 ho4 F4 => ?_⟩
          refine ⟨wipe_agree hl4 ho4 hs, ?_⟩
          have hD3 : H3 D = some (.dK kvs) := st3.ext _ _ hD2 nD
          split at e3
          · cases e3
          · rename_i s5 e5
            refine ⟨C, fz2, ρ4, s3, false, s5, F4, e5, fun fz6 H6 st6 l6 => ?_⟩
            refine iteF ?_
            have F6 := F3.step st6 l6
            refine ⟨rfl, hlt, fz6, s5, kvs, ya, F6, (S2.trans st3).trans st6, st6.ext _ _ hD3 nD, (im2.stp st3 F2.bs).stp st6 F3.bs, fun z => ?_, e3⟩
            rcases st6.new D z with z | ⟨_, z⟩
            · exact nf2 z
            · rw [hD3] at z; cases z
          · rename_i s5 e5
            refine ⟨C, fz2, ρ4, s3, true, s5, F4, e5, fun fz6 H6 st6 l6 => ?_⟩
            refine iteT ?_
            have F6 := F3.step st6 l6
            have F46 := F4.step st6 l6
            have hD6 : H6 D = some (.dK kvs) := st6.ext _ _ hD3 nD
            split at e3
            · cases e3
            · rename_i rk s7 e7
              split at e3
              · cases e3
              · rename_i rv s8 e8
                split at e3
                · rename_i kk yy ek ey
                  split at e3
                  · rename_i hz
                    refine ⟨C, fz6, ρ4, s5, rk, s7, F46, e7, fun w fz7 H7 st7 l7 i7 => ?_⟩
                    have F7 := F6.step st7 l7
                    have F47 := F46.step st7 l7
                    have hD7 : H7 D = some (.dK kvs) := st7.ext _ _ hD6 nD
                    have ew := keyP_im i7 ek
                    refine ⟨C, fz7, ρ4, s7, rv, s8, F47, e8, fun w2 fz8 H8 st8 l8 i8 => ?_⟩
                    obtain ⟨fz9, F9, st9, im9⟩ := F7.keep st8 l8 i8 ey
                    have hD8 : H8 D = some (.dK kvs) := st8.ext _ _ hD7 nD
                    have nf9 : ¬ fz9 D := fun z => by
                      rcases st9.new D z with z | ⟨_, z⟩
                      · rcases st7.new D z with z | ⟨_, z⟩
                        · rcases st6.new D z with z | ⟨_, z⟩
                          · exact nf2 z
                          · rw [hD3] at z; cases z
                        · rw [hD6] at z; cases z
                      · rw [hD7] at z; cases z
                    have ia : ImK K fz9 H8 kvs ya := (((im2.stp st3 F2.bs).stp st6 F3.bs).stp st7 F6.bs).stp st9 F7.bs
                    refine ⟨kvs, kk, ew, hD8, by rw [ia.len]; exact hz, rfl, hlt, fz9, s8, putK kvs kk w2, putP ya kk yy, ?_⟩
                    obtain ⟨F10, S10⟩ := F9.sideD (ws := putK kvs kk w2) ⟨kvs, hD8⟩ nf9 nD n0 no
                    have st10 : Stp C.sp fz1 H1 fz9 (upd H8 D (.dK (putK kvs kk w2))) := by
                      have q := ((((S2.trans st3).trans st6).trans st7).trans st9)
                      refine ⟨q.mono, fun b o qb n => ?_, q.new, fun t b qb z => ?_⟩
                      · have : b ≠ D := fun z => by subst z; rw [hD] at qb; cases qb
                        rw [upd_ne this]; exact q.ext b o qb n
                      · by_cases eb : b = D
                        · subst eb; rw [upd_same] at z; cases z
                        · rw [upd_ne eb] at z; exact q.trk t b qb z
                    exact ⟨F10, st10, upd_same, (ia.put im9).sts S10 F9.bs, nf9, e3⟩
                  · cases e3
                · cases e3
      · have ei : i = xs.length := by omega
        subst ei
        rw [List.drop_length] at e3
        cases e3
        refine .inl ⟨G.stop fz2 H2 _ S2.sts F2.bs, ?_⟩
        exact k D fz2 H2 kvs (st1.trans S2) F2.bs hD2 im2 nf2 nD (st1.back nD hD)
theorem rd_dc (hs : ∀ i, i ∈ is → i ∈ vs) {σ : L2.St} {H : Hp} {Q : VK} (h : rdE K (mDc mi vs g mt mk mv) σ H Q) : tDc (rdI K mi) (rdG K is g) (rdT K mt) (rdE K mk) (rdE K mv) vs σ H Q := by
  obtain ⟨C, fz, ρ, sto, z, sto', F, e, k⟩ := h
  unfold mDc at e
  split at e
  · rename_i xs s1 e1
    split at e
    · rename_i acc s2 e2
      cases e
      refine rd_dcK hs F e1 e2 fun D fz2 H2 kvs st B hD2 im2 nf nD n0 => ?_
      have S3 : Stp C.sp fz H (fun b => fz2 b ∨ b = D) H2 := st.freeze n0 nD hD2
      have im3 : ImK K (fun b => fz2 b ∨ b = D) H2 kvs acc := ⟨im2.1, im2.2.fzm fun _ q => .inl q⟩
      exact k _ _ H2 S3 B.spl (show Im K _ H2 _ _ from .dct hD2 (.inr rfl) im3.keys im3.vals)
    · cases e
  · cases e
end
section
variable {X : Cx} {kx vx tg iter : Expr} {ifs : List Expr} {scope : Scope} {own : List (Str × Nat)} {pos : Pos} {is : List Nat} {mi : Mi} {g : Gx} {mt : Mt} {mk mv : Mx}
theorem se_dc (hc : X.calm = true) (hN : X.N.Nodup) (hi : SI X tg iter mi) (ok : BlkOk X.N X.env.scope scope own) (hs : ∀ i, i ∈ is → i ∈ own.map (·.2))
    (hg : ∀ (s : Shared) (H : Hp) (C : Addr) (cl : List (Str × Addr)) (fp : List Addr), SG (X.blk s H scope (compEnvC scope cl C X.env) fp) tg is g) (ht : ∀ (s : Shared) (H : Hp) (C : Addr) (cl : List (Str × Addr)) (fp : List Addr), STs (X.blk s H scope (compEnvC scope cl C X.env) fp) ifs mt)
    (hk : ∀ (s : Shared) (H : Hp) (C : Addr) (cl : List (Str × Addr)) (fp : List Addr), SE (X.blk s H scope (compEnvC scope cl C X.env) fp) kx mk)
    (he : ∀ (s : Shared) (H : Hp) (C : Addr) (cl : List (Str × Addr)) (fp : List Addr), SE (X.blk s H scope (compEnvC scope cl C X.env) fp) vx mv) (hf : ∀ x, foldedSetIterable iter X.env x = pure x := by intro _; rfl) :
    SE X (.DictComp kx vx [⟨tg, iter, ifs, 0⟩] scope pos) (mDc mi (own.map (·.2)) g mt mk mv) := PE.imp (pe_dc (g := rdG X.K is g) (tt := rdT X.K mt) (tk := rdE X.K mk) (tv := rdE X.K mv) hc hN hi ok hg ht hk he hf) fun _ _ _ h => rd_dc hs h
end
def kEq (q : PyData) (k : Key) : Bool := match q, k with
  | .int i, .inl j => decide (i = j)
  | .str i, .inr j => decide (i = j)
  | _, _ => false
def fGet (rd rk rx : R) : Option R := match rd, keyP rk with
  | .d (.dict ds), some k => match toD rx with
    | some x => some (.d (((ds.find? fun p => kEq p.1 k).map (·.2)).getD x))
    | none => none
  | _, _ => none
def m3 (f : R → R → R → Option R) (a b c : Mx) : Mx := bnd a fun x => bnd b fun y => bnd c fun z _ => ret (f x y z)
/-- what a tracked dict has under a key, as data -/
theorem dct_val {K : PySem.W.Frag} {fz : Fz} {H : Hp} {k : Key} : ∀ {kvs : List (Key × V)} {ds : List (PyData × PyData)}, ImA K fz H (kvs.map fun p => kV p.1) (ds.map (·.1)) → ImA K fz H (kvs.map (·.2)) (ds.map (·.2)) →
    (∀ v, valV kvs k = some v → ∃ d, (ds.find? fun p => kEq p.1 k).map (·.2) = some d ∧ Im K fz H v d) ∧
    (valV kvs k = none → (ds.find? fun p => kEq p.1 k).map (·.2) = none)
  | [], ds, a, b => by
    cases ds with
    | nil => exact ⟨(fun v e => by cases e), fun _ => rfl⟩
    | cons q ds => cases a
  | p :: kvs, ds, a, b => by
    cases ds with
    | nil => cases a
    | cons q ds =>
      rw [List.map_cons, List.map_cons] at a b
      cases a with
      | cons a1 a2 =>
        cases b with
        | cons b1 b2 =>
          obtain ⟨g1, g2⟩ := dct_val (k := k) a2 b2
          obtain ⟨p1, p2⟩ := p
          obtain ⟨q1, q2⟩ := q
          have key : kEq q1 k = decide (p1 = k) := by
            cases p1 with
            | inl i =>
              dsimp only [kV] at a1
              cases a1
              cases k with
              | inl j => simp [kEq]
              | inr j => simp [kEq]
            | inr i =>
              dsimp only [kV] at a1
              cases a1
              cases k with
              | inl j => simp [kEq]
              | inr j => simp [kEq]
          by_cases e : p1 = k
          · rw [decide_eq_true e] at key
            refine ⟨fun v h => ?_, fun h => ?_⟩
            · rw [valV_pos (p := (p1, p2)) e] at h
              cases h
              exact ⟨q2, by rw [List.find?_cons]; simp only [key]; rfl, b1⟩
            · rw [valV_pos (p := (p1, p2)) e] at h; cases h
          · rw [decide_eq_false e] at key
            refine ⟨fun v h => ?_, fun h => ?_⟩
            · rw [valV_neg (p := (p1, p2)) e] at h
              obtain ⟨d, e1, e2⟩ := g1 v h
              exact ⟨d, by rw [List.find?_cons]; simp only [key]; exact e1, e2⟩
            · rw [valV_neg (p := (p1, p2)) e] at h
              rw [List.find?_cons]
              simp only [key]
              exact g2 h
section
variable {X : Cx} {o e f : Expr} {apos cpos : Pos} {mo me mf : Mx}
theorem rd_get2 {K : PySem.W.Frag} {σ : L2.St} {H : Hp} {Q : VK} (h : rdE K (m3 fGet mo me mf) σ H Q) : tDGet2 (rdE K mo) (rdE K me) (rdE K mf) σ H Q := by
  obtain ⟨C, fz, ρ, sto, z, sto', F, e, k⟩ := h
  obtain ⟨x, s1, ea, e1⟩ := bnd_some e
  obtain ⟨y, s2, eb, e2⟩ := bnd_some e1
  obtain ⟨w, s3, ec, e3⟩ := bnd_some e2
  obtain ⟨ef, rfl⟩ := ret_some e3
  clear e e1 e2 e3
  unfold fGet at ef
  split at ef
  · rename_i ds kk ek
    split at ef
    · rename_i xx ex
      cases ef
      refine ⟨C, fz, ρ, sto, _, s1, F, ea, fun v fz1 H1 st1 l1 i1 => ?_⟩
      have F1 := F.step st1 l1
      cases i1 with
      | dct hd hf hk hv =>
        rename_i a kvs
        refine ⟨a, rfl, .inl ⟨kvs, .inl hd⟩, ?_⟩
        refine ⟨C, fz1, ρ, s1, y, s2, F1, eb, fun v2 fz2 H2 st2 l2 i2 => ?_⟩
        have F2 := F1.step st2 l2
        have ey := keyP_im i2 ek
        refine ⟨C, fz2, ρ, s2, w, _, F2, ec, fun v3 fz3 H3 st3 l3 i3 => ?_⟩
        obtain ⟨fz4, F4, st4, im4⟩ := F2.keep st3 l3 i3 ex
        have na : some a ≠ C.sp := by intro z; exact F1.bs.nsp _ z.symm hf
        have h3 : H3 a = some (.dK kvs) := st3.ext _ _ (st2.ext _ _ hd na) na
        refine ⟨valV kvs kk, .inl ⟨kvs, kk, .inl h3, ey, rfl⟩, ?_⟩
        have hk4 := (hk.stp st2 F1.bs).stp st4 F2.bs
        have hv4 := (hv.stp st2 F1.bs).stp st4 F2.bs
        obtain ⟨g1, g2⟩ := dct_val (k := kk) hk4 hv4
        cases hval : valV kvs kk with
        | none =>
          have g := g2 hval
          refine k _ fz4 H3 ((st1.trans st2).trans st4) l3 ?_
          rw [g]
          exact im4
        | some u =>
          obtain ⟨d, g, im⟩ := g1 u hval
          refine k _ fz4 H3 ((st1.trans st2).trans st4) l3 ?_
          rw [g]
          exact im
    · cases ef
  · cases ef
theorem se_get2 {k : Nat} (hr : Room k X.A) (ho : SE X o mo) (he : SE X e me) (hf : SE X f mf) (m : M2 X o "get" apos e f cpos := by exact ⟨rfl, rfl, rfl, rfl⟩) :
    SE X (.Call (.Attribute o "get" apos) [e, f] [] cpos) (m3 fGet mo me mf) := PE.imp (pe_dget2 (by have := hr.units; omega) ho he hf m) fun _ _ _ h => rd_get2 h
end
def mSwap (i : Nat) (ix1 ix2 : Mx) (a : Mx) : Ms := fun ρ s => match a ρ s with
  | some (.d (.tuple [x, y]), s1) => match ix1 ρ s1, ρ[i]? with
    | some (.d (.int k1), s2), some (some (.o xs)) => match ixN xs.length k1 with
      | some j1 => match ix2 (ρ.set i (some (.o (xs.set j1 x)))) s2 with
        | some (.d (.int k2), s3) => match ixN xs.length k2 with
          | some j2 => some (.nx, (ρ.set i (some (.o (xs.set j1 x)))).set i (some (.o ((xs.set j1 x).set j2 y))), s3)
          | none => none
        | _ => none
      | none => none
    | _, _ => none
  | _ => none
section
variable {X : Cx} {i : Nat} {e : Expr} {t1 t2 : Expr} {me mi mj : Mx} {pos tpos : Pos} {kk : Nat}
theorem ss_swap (hc : X.calm = true) (he : SE X e me) (hg1 : PG X t1 (gSub (tVar i) (rdE X.K mi) rSetL)) (hg2 : PG X t2 (gSub (tVar i) (rdE X.K mj) rSetL))
    (h1 : (assignEach (t1 :: [t2]) X.env).map (·.2) = assign t1 X.env :: (assignEach [t2] X.env).map (·.2) := by rfl) (h2 : (assignEach (t2 :: []) X.env).map (·.2) = assign t2 X.env :: (assignEach [] X.env).map (·.2) := by rfl)
    (hn : (assignEach [t1, t2] X.env).length = 2 := by rfl) (hst : (assignEach [t1, t2] X.env).findIdx? (·.1) = none := by rfl)
    (hs : swapsWithSole [.Tuple [t1, t2] kk tpos] e pos.line X.env = pure false := by rfl) (hw : swappedStores [.Tuple [t1, t2] kk tpos] e X.env = pure none := by rfl)
    (h3 : (assignEach [.Tuple [t1, t2] kk tpos] X.env).map (·.2) = [assign (.Tuple [t1, t2] kk tpos) X.env] := by rfl) :
    SS X (.Assign [.Tuple [t1, t2] kk tpos] e pos) (mSwap i mi mj me) :=
  PS.imp (ps_asg he (pg_tup hc (pgs_cons hg1 (pgs_cons hg2 pgs_nil h2) h1) hn hst) hs hw h3) fun D σ H h => by
    obtain ⟨C, fz, ρ, sto, out, ρ', sto', F, e, k⟩ := h
    unfold mSwap at e
    split at e
    · rename_i x y s1 e1
      split at e
      · rename_i k1 s2 xs e2 ei
        split at e
        · rename_i j1 ej1
          split at e
          · rename_i k2 s3 e3
            split at e
            · rename_i j2 ej2
              cases e
              refine ⟨C, fz, ρ, sto, _, s1, F, e1, fun v fz1 H1 st1 l1 i1 => ?_⟩
              cases i1 with
              | tup ht ha =>
                cases ha with
                | cons hx ha =>
                  cases ha with
                  | cons hy ha =>
                    cases ha
                    have F1 := F.step st1 l1
                    obtain ⟨a, vs, hσ, h2, h3, h4, h5, h6⟩ := F1.owned ei
                    refine ⟨_, _, rfl, ht.sq, rfl, _, _, rfl, ?_⟩
                    refine ⟨_, hσ, C, fz1, ρ, s1, _, _, F1, e2, fun w fz2 H2 st2 l2 i2 => ?_⟩
                    cases i2
                    have F2 := F1.step st2 l2
                    obtain ⟨a', vs', hσ', q2, q3, q4, q5, q6⟩ := F2.owned ei
                    rw [hσ] at hσ'; cases hσ'
                    refine ⟨a, vs', k1, j1, rfl, rfl, q2, by rw [q3.length]; exact ej1, ?_⟩
                    obtain ⟨F3, S3⟩ := F2.write (ys := xs.set j1 x) ei hσ (q3.set j1 (hx.stp st2 F1.bs))
                    have imy3 := (hy.stp st2 F1.bs).sts S3 F2.bs
                    have hi : i < ρ.length := (List.getElem?_eq_some_iff.mp ei).1
                    have ei3 : (ρ.set i (some (.o (xs.set j1 x))))[i]? = some (some (.o (xs.set j1 x))) := List.getElem?_set_self hi
                    refine ⟨_, _, rfl, ?_⟩
                    refine ⟨_, hσ, C, fz2, _, s2, _, _, F3, e3, fun w fz4 H4 st4 l4 i4 => ?_⟩
                    cases i4
                    have F4 := F3.step st4 l4
                    obtain ⟨a4, vs4, hσ4, r2, r3, r4, r5, r6⟩ := F4.owned ei3
                    rw [hσ] at hσ4; cases hσ4
                    refine ⟨a, vs4, k2, j2, rfl, rfl, r2, by rw [r3.length, List.length_set]; exact ej2, ?_⟩
                    obtain ⟨F5, S5⟩ := F4.write (ys := (xs.set j1 x).set j2 y) ei3 hσ (r3.set j2 (imy3.stp st4 F3.bs))
                    exact ⟨rfl, k fz4 σ _ F5 ((st1.trans st2).sts.trans (S3.trans (st4.sts.trans S5)))⟩
            · cases e
          · cases e
        · cases e
      · cases e
    · cases e
end
end Dh
namespace Dh
open PySem PySem.Spec L2 PySem.W PyProof.Rows
/-- a list, a tuple -/
inductive Sk where
  | l | t
def Sk.Sq (k : Sk) (K : PySem.W.Frag) (H : Hp) (a : Addr) (xs : List V) : Prop := match k with
  | .l => SqL K H a xs
  | .t => SqT K H a xs
def Sk.Is (k : Sk) (h : Heap) (a : Addr) (its : Array Value) : Prop := match k with
  | .l => h.IsList a its
  | .t => h.IsTuple a its
def Sk.Ir (k : Sk) (h : Heap) (it a : Addr) (i : Nat) : Prop := match k with
  | .l => h.IsListIter it a i
  | .t => h.IsTupleIter it a i
def Sk.ob (k : Sk) (a : Addr) : Obj := match k with
  | .l => { cls := .type "list_iterator", data := .fields #[.ref a, .int 0 0] }
  | .t => { cls := .type "tuple_iterator", data := .fields #[.ref a, .int 0 0] }
section
variable {X : Cx} {pins : List (Addr × Obj)} {σ : L2.St} {H : Hp} {s : Shared} {k : Sk} {a : Addr} {xs ys : List V}
theorem Sk.read (I : Inv X pins σ H s) (h : k.Sq X.K H a xs) : ∃ its : List Value, Vals xs its ∧ k.Is s.heap a its.toArray := by
  cases k with
  | l => obtain ⟨its, rv, p, _⟩ := I.list h; exact ⟨its, rv, p.isList⟩
  | t => obtain ⟨its, rv, p, _⟩ := I.tuple h; exact ⟨its, rv, (show s.heap.IsTuple a its.toArray from p)⟩
theorem Sk.inj (I : Inv X pins σ H s) (h : k.Sq X.K H a xs) (h2 : k.Sq X.K H a ys) : xs = ys := by
  cases k with
  | l => exact I.list_inj h h2
  | t => exact I.tuple_inj h h2
theorem Sk.lt {h : Heap} {its : Array Value} (p : k.Is h a its) : a < h.objs.size := by
  cases k with
  | l => obtain ⟨o, ho, _⟩ := id p; exact Heap.lt_size ho
  | t => obtain ⟨o, ho, _⟩ := id p; exact Heap.lt_size ho
theorem Sk.ir0 {h : Heap} {it : Addr} (e : h.get? it = some (k.ob a)) : k.Ir h it a 0 := by
  cases k with
  | l => exact ⟨_, e, rfl, rfl⟩
  | t => exact ⟨_, e, rfl, rfl⟩
theorem Sk.ir_obj {h : Heap} {it : Addr} {i : Nat} (e : k.Ir h it a i) : ∃ o, h.get? it = some o ∧ ∀ v, o.data ≠ .cell v := by
  cases k with
  | l => obtain ⟨o, e1, _, d⟩ := e; exact ⟨o, e1, fun v q => by rw [d] at q; cases q⟩
  | t => obtain ⟨o, e1, _, d⟩ := e; exact ⟨o, e1, fun v q => by rw [d] at q; cases q⟩
theorem Sk.ir_at {h h' : Heap} {it : Addr} {i : Nat} (e : k.Ir h it a i) (q : ∀ o, h.get? it = some o → h'.get? it = some o) : k.Ir h' it a i := by
  cases k with
  | l => exact Heap.IsListIter.at e fun o => q o
  | t => exact Heap.IsTupleIter.at e fun o => q o
theorem Sk.ir_lt {h : Heap} {it : Addr} {i : Nat} (e : k.Ir h it a i) : it < h.objs.size := by
  obtain ⟨o, e1, _⟩ := k.ir_obj e
  exact Heap.lt_size e1
theorem Sk.ne {h : Heap} {it : Addr} {i : Nat} {its : Array Value} (e : k.Ir h it a i) (p : k.Is h a its) : a ≠ it := fun q => by
  subst q
  cases k with
  | l => obtain ⟨o1, g1, c1, _⟩ := e; obtain ⟨o2, g2, c2, _⟩ := p; rw [g1] at g2; cases g2; rw [c1] at c2; simp at c2
  | t => obtain ⟨o1, g1, c1, _⟩ := e; obtain ⟨o2, g2, c2, _⟩ := p; rw [g1] at g2; cases g2; rw [c1] at c2; simp at c2
theorem Sk.begins (k : Sk) (a : Addr) (its : Array Value) : Begins (.ref a) (k.ob a) fun h => k.Is h a its := by
  cases k with
  | l => exact begins_list a its
  | t => exact begins_tuple a its
theorem Sk.draws {prog : Program} {w : World} {A : Around} (hh : A.handled = none) (k : Sk) (it : Addr) (hne : a ≠ it) (its : Array Value) :
    Draws prog w A it [it, a] its.size (fun i v => its[i]? = some v) (fun i h => k.Ir h it a i ∧ k.Is h a its) := by
  cases k with
  | l => exact Draws.list hh it a hne its
  | t => exact Draws.tuple hh it a hne its
end
/-- both as they stand at each turn, the items in new pairs -/
def Iz2 (K : PySem.W.Frag) (k1 k2 : Sk) (a b : Addr) : It :=
  ⟨fun i H => ∃ (xs ys : List V) (x y : V), k1.Sq K H a xs ∧ k2.Sq K H b ys ∧ xs[i]? = some x ∧ ys[i]? = some y,
    fun i H v H' => ∃ T x y, v = .ref T ∧ H T = none ∧ H' = upd H T (.tup [x, y]) ∧ (∀ xs, k1.Sq K H a xs → xs[i]? = some x) ∧ ∀ ys, k2.Sq K H b ys → ys[i]? = some y,
    fun i H => ∃ xs ys : List V, k1.Sq K H a xs ∧ k2.Sq K H b ys ∧ i ≤ xs.length ∧ i ≤ ys.length ∧ (xs.length = i ∨ ys.length = i)⟩
theorem turn_z2 {P : Program} {w : World} {K : PySem.W.Frag} {elts : List Expr} {kk : Nat} {tpos : Pos} {k1 k2 : Sk} {a b z TI TO i1 i2 : Addr} (S : ZipSep2 z TI TO i1 i2 [i1, a] [i2, b]) :
    Turn P w K (.Tuple elts kk tpos) (Iz2 K k1 k2 a b) [z, TI, TO, i1, i2] z (fun i h => IsZip h z TI TO .none ∧ IsTupOf2 h TI (.ref i1) (.ref i2) ∧ (∃ x y, IsTupOf2 h TO x y) ∧ k1.Ir h i1 a i ∧ k2.Ir h i2 b i) where
  mem := by simp
  obj := fun i h st c hc => by
    obtain ⟨hz, hTI, ⟨x, y, hTO⟩, h1, h2⟩ := st
    have e' : c = z ∨ c = TI ∨ c = TO ∨ c = i1 ∨ c = i2 := by simpa using hc
    rcases e' with q | q | q | q | q
    · rw [q]; exact ⟨_, hz, fun v q => nomatch q⟩
    · rw [q]; exact ⟨_, hTI, fun v q => nomatch q⟩
    · rw [q]; exact ⟨_, hTO, fun v q => nomatch q⟩
    · rw [q]; exact k1.ir_obj h1
    · rw [q]; exact k2.ir_obj h2
  keep := fun i h h' st k => by
    obtain ⟨hz, hTI, ⟨x, y, hTO⟩, h1, h2⟩ := st
    exact ⟨k z (by simp) _ hz, k TI (by simp) _ hTI, ⟨x, y, k TO (by simp) _ hTO⟩, k1.ir_at h1 fun o q => k i1 (by simp) o q, k2.ir_at h2 fun o q => k i2 (by simp) o q⟩
  item := by
    intro X hP hw hK hc i pins s σ H E I hf st hg
    subst hP hw hK
    obtain ⟨hz, hTI, ⟨x0, y0, hTO⟩, h1, h2⟩ := st
    obtain ⟨xs, ys, x, y, hqx, hqy, hx, hy⟩ := hg
    obtain ⟨its, rv, p⟩ := k1.read I hqx
    obtain ⟨its2, rv2, p2⟩ := k2.read I hqy
    obtain ⟨u, hu, ru⟩ := rv.get hx
    obtain ⟨u2, hu2, ru2⟩ := rv2.get hy
    have hzl : z < s.heap.objs.size := Heap.lt_size hz
    have hh := I.ok.hd hc
    have na := k1.ne h1 p
    have nb := k2.ne h2 p2
    have l1 : i < its.toArray.size := by have := (List.getElem?_eq_some_iff.mp hu).1; simpa using this
    have l2 : i < its2.toArray.size := by have := (List.getElem?_eq_some_iff.mp hu2).1; simpa using this
    refine wpAny_pyNext_zipD2_item S (k1.draws (A := X.A.in1) hh i1 na its.toArray) (k2.draws (A := X.A.in1) hh i2 nb its2.toArray) hz hTI hTO ⟨h1, p⟩ ⟨h2, p2⟩ l1 l2 fun x1 x2 h' tk e1 e2 z' TO' h1' h2' hT hsz hk => ?_
    have eu : x1 = u := by
      have q : its[i]? = some x1 := by simpa using e1
      rw [hu] at q; cases q; rfl
    have eu2 : x2 = u2 := by
      have q : its2[i]? = some x2 := by simpa using e2
      rw [hu2] at q; cases q; rfl
    subst eu eu2
    refine ⟨_, rfl, wpAny_letOwnedTupleGo_zip (s := { s with heap := h', toks := tk }) z' fun h'' z'' sb => ?_⟩
    have hT2 : h''.get? s.heap.objs.size = some { cls := .type "tuple", data := .seq #[x1, x2] } := (sb.2 _ (Nat.ne_of_gt hzl)).trans hT
    have new : ObjOk X.prog X.w (upd H s.heap.objs.size (.tup [x, y])) h'' s.heap.objs.size (.tup [x, y]) :=
      ⟨by show 2 ≤ sizeLine; decide, [x1, x2], .cons ru (.cons ru2 .nil), ⟨_, hT2, rfl, _, rfl⟩⟩
    have I1 : Inv X pins σ (upd H s.heap.objs.size (.tup [x, y])) { s with heap := h'', toks := tk } :=
      I.turnedNew (t' := tk) (ch := [z, TI, TO, i1, i2]) (fun c o hb q => (sb.2 c (fun q' => hb (by simp [q']))).trans (hk c o (fun q' => hb (by simp [q'])) (fun q' => hb (by simp [q'])) (fun q' => hb (by simp [q'])) (fun q' => hb (by simp [q'])) q)) hf (Nat.le_refl _) new
    refine ⟨.ref s.heap.objs.size, _, I1, rfl, ⟨_, x, y, rfl, I.hok.fresh (Nat.le_refl _), rfl, fun l hl => by rw [k1.inj I hl hqx]; exact hx, fun l hl => by rw [k2.inj I hl hqy]; exact hy⟩, ⟨z'', ?_, ⟨x1, x2, ?_⟩, ?_, ?_⟩, fun c hcm => ?_⟩
    · exact (sb.2 _ S.TIz).trans (hk _ _ S.TIz S.TITO S.TIi1 S.TIi2 hTI)
    · exact (sb.2 _ S.TOz).trans TO'
    · exact k1.ir_at h1'.1 fun o q => (sb.2 _ S.zi1.symm).trans q
    · exact k2.ir_at h2'.1 fun o q => (sb.2 _ S.zi2.symm).trans q
    · have hlt : c < s.heap.objs.size := by
        have e' : c = z ∨ c = TI ∨ c = TO ∨ c = i1 ∨ c = i2 := by simpa using hcm
        rcases e' with q | q | q | q | q
        · rw [q]; exact hzl
        · rw [q]; exact Heap.lt_size hTI
        · rw [q]; exact Heap.lt_size hTO
        · rw [q]; exact k1.ir_lt h1
        · rw [q]; exact k2.ir_lt h2
      rw [upd_ne (Nat.ne_of_lt hlt)]
      exact (hf c hcm).1
  done := by
    intro X hP hw hK hc i pins s σ H E I hf st hg
    subst hP hw hK
    obtain ⟨hz, hTI, ⟨x0, y0, hTO⟩, h1, h2⟩ := st
    obtain ⟨xs, ys, hqx, hqy, le1, le2, hend⟩ := hg
    obtain ⟨its, rv, p⟩ := k1.read I hqx
    obtain ⟨its2, rv2, p2⟩ := k2.read I hqy
    have l1 := rv.length
    have l2 := rv2.length
    have hh := I.ok.hd hc
    have na := k1.ne h1 p
    have nb := k2.ne h2 p2
    refine wpAny_pyNext_zipD2_end S (k1.draws (A := X.A.in1) hh i1 na its.toArray) (k2.draws (A := X.A.in1) hh i2 nb its2.toArray) hz hTI hTO ⟨h1, p⟩ ⟨h2, p2⟩ (by simp; omega) (by simp; omega) (by simp; omega) fun h' tk hk => ⟨rfl, I.turnedL (t' := tk) (ch := [z, TI, TO, i1, i2]) (fun c o hb q =>
      hk c o (fun q' => hb (by simp [q'])) (fun q' => hb (by simp [q'])) (fun q' => hb (by simp [q'])) (fun q' => hb (by simp [q'])) q) hf⟩
  self := fun A i s Q E st h => wpAny_pyIter_zip st.1 h
def iZ2 (K : PySem.W.Frag) (ta : TA) : TI := fun σ H R => ta σ H fun vs H1 => ∃ k1 k2 a b xs ys, vs = [.ref a, .ref b] ∧ Sk.Sq k1 K H1 a xs ∧ Sk.Sq k2 K H1 b ys ∧ R (Iz2 K k1 k2 a b) H1
section
variable {X : Cx} {e e2 e3 : Expr} {ta : TA} {p pos tpos : Pos} {elts : List Expr} {kk : Nat}
theorem pi_z2 (hg : Gl X "zip") (hm : X.mg "zip" = none) (ha : PA X [e, e2] ta)
    (hs : starEach [e, e2] X.env = (false, eval e X.env) :: starEach [e2] X.env := by rfl) (hpl : (backTo pos (starEach [e2] X.env)).any (·.1) = false := by rfl) :
    PI X (.Tuple elts kk tpos) (.Call (.Name "zip" p) [e, e2] [] pos) (iZ2 X.K ta) := by
  refine ⟨fun pins s σ H R I h => ?_⟩
  refine Call_ (ld_blt I hg hm PyProof.Rows.boot_zip (PyProof.Rows.callWith_type1 (thn (ha.run pos pins s σ H _ I h) fun us s1 ⟨vs, H1, I1, r1, q1⟩ => ?_) hs hpl))
  obtain ⟨k1, k2, a, b, xs, ys, ex, hqx, hqy, q⟩ := q1
  subst ex
  cases r1 with
  | cons r rr =>
    cases rr with
    | cons r' rr =>
      cases rr
      cases r
      cases r'
      obtain ⟨its, rv, p1⟩ := k1.read I1 hqx
      obtain ⟨its2, rv2, p2⟩ := k2.read I1 hqy
      refine zip_begins2 (k1.begins a its.toArray) (k2.begins b its2.toArray) p1 p2 fun h' hz hTI hTO g1 g2 hsz hk => wpAny_pyIter_zip hz ?_
      have I2 : Inv X pins σ H1 { s1 with heap := h' } := I1.kept (t' := s1.toks) hk
      refine ⟨s1.heap.objs.size + 4, [s1.heap.objs.size + 4, s1.heap.objs.size + 2, s1.heap.objs.size + 3, s1.heap.objs.size, s1.heap.objs.size + 1], _, _, H1, rfl, I2,
        turn_z2 (zip_sep2 (fp1 := [a]) (fp2 := [b]) (by simp; exact k1.lt p1) (by simp; exact k2.lt p2)), ⟨hz, hTI, ⟨_, _, hTO⟩, k1.ir0 g1, k2.ir0 g2⟩, fun c hcm => ?_, q⟩
      have e' : c = s1.heap.objs.size + 4 ∨ c = s1.heap.objs.size + 2 ∨ c = s1.heap.objs.size + 3 ∨ c = s1.heap.objs.size ∨ c = s1.heap.objs.size + 1 := by simpa using hcm
      have hle : s1.heap.objs.size ≤ c := by rcases e' with z | z | z | z | z <;> (rw [z]; first | exact Nat.le_refl _ | exact Nat.le_add_right _ _)
      exact I1.fpOk hle (I1.hok.fresh hle)
end
def seqOf : PyData → Option (List PyData)
  | .list xs => some xs
  | .tuple xs => some xs
  | _ => none
def trip (xs ys zs : List PyData) : List PyData := (xs.zip (ys.zip zs)).map fun p => PyData.tuple [p.1, p.2.1, p.2.2]
def zipQ2 (rs : List R) : Option (List PyData) := match toDs rs with
  | some [x, y] => match seqOf x, seqOf y with
    | some xs, some ys => some (pairs xs ys)
    | _, _ => none
  | _ => none
def zipQ3 (rs : List R) : Option (List PyData) := match toDs rs with
  | some [x, y, z] => match seqOf x, seqOf y, seqOf z with
    | some xs, some ys, some zs => some (trip xs ys zs)
    | _, _, _ => none
  | _ => none
section
variable {K : PySem.W.Frag} {sp : Option Addr} {fz : Fz} {H : Hp} {sto : Sto}
/-- a list or a tuple that stays -/
inductive FzQ (K : PySem.W.Frag) (fz : Fz) (H : Hp) : Sk → Addr → List V → Prop
  | l {a xs} : FzL K fz H a xs → FzQ K fz H .l a xs
  | t {a xs} : FzT K H a xs → FzQ K fz H .t a xs
theorem FzQ.sq {k : Sk} {a : Addr} {xs : List V} (h : FzQ K fz H k a xs) : k.Sq K H a xs := by
  cases h with
  | l h => exact h.sq
  | t h => exact h.sq
theorem FzQ.sts {fz1 : Fz} {H1 : Hp} {k : Sk} {a : Addr} {xs : List V} (s : Sts sp fz H fz1 H1) (B : Bs sp fz H sto) (h : FzQ K fz H k a xs) : FzQ K fz1 H1 k a xs := by
  cases h with
  | l h => exact .l (FzL.sts s B h)
  | t h => exact .t (FzT.sts s B h)
theorem Im.seqOf {v : V} {x : PyData} {xs : List PyData} (i : Im K fz H v x) (e : Dh.seqOf x = some xs) : ∃ k a vs, v = .ref a ∧ FzQ K fz H k a vs ∧ ImA K fz H vs xs := by
  unfold Dh.seqOf at e
  split at e
  · cases e
    cases i with
    | lst h a => exact ⟨.l, _, _, rfl, .l h, a⟩
  · cases e
    cases i with
    | tup h a => exact ⟨.t, _, _, rfl, .t h, a⟩
  · cases e
theorem goes_z2 {k1 k2 : Sk} {a b : Addr} {vs ws : List V} {xs ys : List PyData} (h1 : FzQ K fz H k1 a vs) (h2 : FzQ K fz H k2 b ws) (m1 : ImA K fz H vs xs) (m2 : ImA K fz H ws ys) (B0 : Bs sp fz H sto) : Goes K sp fz H (Iz2 K k1 k2 a b) (pairs xs ys) := by
  have len : (pairs xs ys).length = min vs.length ws.length := by unfold pairs; rw [List.length_map, List.length_zip, m1.length, m2.length]
  refine ⟨fun i fz1 H1 sto hi s B => ?_, fun fz1 H1 sto s B => ?_, fun i x fz1 H1 sto v H2 hx s B y => ?_⟩
  · rw [len] at hi
    have a1 : i < vs.length := by omega
    have a2 : i < ws.length := by omega
    exact ⟨vs, ws, vs[i], ws[i], (h1.sts s B0).sq, (h2.sts s B0).sq, List.getElem?_eq_getElem a1, List.getElem?_eq_getElem a2⟩
  · exact ⟨vs, ws, (h1.sts s B0).sq, (h2.sts s B0).sq, by rw [len]; omega, by rw [len]; omega, by rw [len]; omega⟩
  · obtain ⟨T, v1, v2, rfl, hT, e, g1, g2⟩ := y
    obtain ⟨x1, x2, q1, q2, rfl⟩ := pairs_at hx
    obtain ⟨u1, p1, i1⟩ := m1.at i x1 q1
    obtain ⟨u2, p2, i2⟩ := m2.at i x2 q2
    rw [g1 vs (h1.sts s B0).sq] at p1; cases p1
    rw [g2 ws (h2.sts s B0).sq] at p2; cases p2
    exact pair_new B (i1.sts s B0) (i2.sts s B0) hT e
end
section
variable {X : Cx} {a b c : Expr} {m : Ma} {p pos tpos : Pos} {elts : List Expr} {kk : Nat}
theorem si_z2 (ha : SA X [a, b] m) (hm : X.mg "zip" = none) (hg : Gl X "zip" := by rfl) (hs : starEach [a, b] X.env = (false, eval a X.env) :: starEach [b] X.env := by rfl) (hpl : (backTo pos (starEach [b] X.env)).any (·.1) = false := by rfl) :
    SI X (.Tuple elts kk tpos) (.Call (.Name "zip" p) [a, b] [] pos) (mArgI zipQ2 m) := PI.imp (pi_z2 hg hm ha hs hpl) fun σ H R h => by
  obtain ⟨C, fz, ρ, sto, xs, sto', F, e, k⟩ := h
  obtain ⟨x, s1, ea, e1⟩ := bnd_some e
  obtain ⟨ef, rfl⟩ := ret_some e1
  clear e e1
  refine ⟨C, fz, ρ, sto, x, _, F, ea, fun v fz1 H1 st1 l1 i1 => ?_⟩
  have B1 := F.bs.step st1 l1
  unfold zipQ2 at ef
  split at ef
  · rename_i y1 y2 hds
    obtain ⟨fz2, st2, B2, g, im⟩ := ImRs.keep i1 hds st1 B1 fz1 st1 B1 fun _ h => h
    split at ef
    · rename_i q1 q2
      cases ef
      cases im with
      | cons j1 t1 =>
        cases t1 with
        | cons j2 t2 =>
          cases t2
          obtain ⟨k1, a1, v1, rfl, f1, m1⟩ := j1.seqOf q1
          obtain ⟨k2, a2, v2, rfl, f2, m2⟩ := j2.seqOf q2
          exact ⟨k1, k2, a1, a2, v1, v2, rfl, f1.sq, f2.sq, k _ fz2 H1 st2 l1 (goes_z2 f1 f2 m1 m2 B2)⟩
    · cases ef
  · cases ef
end
end Dh
namespace Dh
open PySem PySem.Spec PyProof.Rows L2 PySem.W
/-- fresh lists are not one another -/
def Dst (vs : List V) (rs : List R) : Prop := ∀ (i j : Nat) (a : Addr) (xs ys : List PyData), i < j → vs[i]? = some (.ref a) → rs[i]? = some (.f xs) → rs[j]? = some (.f ys) → vs[j]? ≠ some (.ref a)
def rdA2 (K : PySem.W.Frag) (m : Ma) : TA := fun σ H Q => ∃ (C : Cn) (fz : Fz) (ρ : Ev) (sto : Sto) (r : List R) (sto' : Sto), Fm K C fz ρ sto σ H ∧ m ρ sto = some (r, sto') ∧
  ∀ vs fz' H', Stp C.sp fz H fz' H' → SpL C.sp H' sto' → ImRs K C.sp H fz' H' vs r → Dst vs r → Q vs H'
def SA2 (X : Cx) (es : List Expr) (m : Ma) : Prop := PA X es (rdA2 X.K m)
theorem ImRs.at {K : PySem.W.Frag} {sp : Option Addr} {fz1 : Fz} {H H1 : Hp} : ∀ {vs : List V} {rs : List R}, ImRs K sp H fz1 H1 vs rs → ∀ (i : Nat) (r : R), rs[i]? = some r → ∃ v, vs[i]? = some v ∧ ImR K sp H fz1 H1 v r
  | _, _, .nil, i, x, h => by simp at h
  | _, _, .cons h t, 0, x, e => by
    simp only [List.getElem?_cons_zero, Option.some.injEq] at e
    subst e
    exact ⟨_, rfl, h⟩
  | _, _, .cons h t, i + 1, x, e => by
    simp only [List.getElem?_cons_succ] at e ⊢
    exact ImRs.at t i x e
section
variable {X : Cx} {e : Expr} {es : List Expr} {me : Mx} {mr : Ma}
theorem sa2_nil : SA2 X [] maNil := PA.imp pa_nil fun σ H Q h => by
  obtain ⟨C, fz, ρ, sto, r, sto', F, e, k⟩ := h
  cases e
  exact k [] fz H .refl F.bs.spl .nil fun i j a xs ys _ h => by simp at h
theorem sa2_cons (he : SE X e me) (hr : SA2 X es mr) (hs : starEach (e :: es) X.env = (false, eval e X.env) :: starEach es X.env := by rfl) : SA2 X (e :: es) (maCons me mr) := PA.imp (pa_cons he hr hs) fun σ H Q h => by
  obtain ⟨C, fz, ρ, sto, r, sto', F, e, k⟩ := h
  obtain ⟨x, s1, ea, e⟩ := bnd_some e
  obtain ⟨xs, s2, eb, e⟩ := bnd_some e
  cases e
  refine ⟨C, fz, ρ, sto, x, s1, F, ea, fun v fz1 H1 st1 l1 i1 => ?_⟩
  refine ⟨C, fz1, ρ, s1, xs, sto', F.step st1 l1, eb, fun vs fz2 H2 st2 l2 i2 d2 => ?_⟩
  refine k (v :: vs) fz2 H2 (st1.trans st2) l2 (.cons (i1.stp st2 (F.bs.step st1 l1)) (i2.early st1)) fun i j a ys zs hij h1 h2 h3 h4 => ?_
  cases j with
  | zero => omega
  | succ j =>
    rw [List.getElem?_cons_succ] at h3 h4
    cases i with
    | zero =>
      rw [List.getElem?_cons_zero] at h1 h2
      cases h1
      cases h2
      obtain ⟨b, ws, eb, g1, _⟩ := i1
      cases eb
      obtain ⟨w, g2, g3⟩ := i2.at j _ h3
      rw [g2] at h4
      cases h4
      obtain ⟨b, ws, eb, _, _, _, _, g4⟩ := g3
      cases eb
      rw [g1] at g4
      cases g4
    | succ i =>
      rw [List.getElem?_cons_succ] at h1 h2
      exact d2 i j a ys zs (by omega) h1 h2 h3 h4
end
/-- x, y, z = two fresh lists that stay as they are, a fresh list -/
def mPar3f (i j l : Nat) (a : Ma) : Ms := fun ρ s => match a ρ s with
  | some ([.f c, .f d, .f f], s1) => some (.nx, ((ρ.set i (some (.d (.list c)))).set j (some (.d (.list d)))).set l (some (.o f)), s1)
  | _ => none
def rCatL (K : PySem.W.Frag) : R2 := fun x y H Q => ∃ l b xs zs, x = .ref l ∧ y = .ref b ∧ SqL K H l xs ∧ SqL K H b zs ∧ xs.length + zs.length ≤ sizeLine ∧ ∀ p, H p = none → Q (.ref p) (upd H p (.lst (xs ++ zs)))
theorem op_catL {X : Cx} : OpR X (binaryOp .Add) (rCatL X.K) := by
  intro pins s σ H x y v u Q I rx ry h
  obtain ⟨l, b, xs, zs, rfl, rfl, hH, hB, hz, q⟩ := h
  cases rx
  cases ry
  obtain ⟨its, r, e, z⟩ := I.list hH
  obtain ⟨its2, r2, e2, z2⟩ := I.list hB
  have l1 := r.length
  have l2 := r2.length
  obtain ⟨⟨cls, dd, data, sl⟩, n, ho, hc, hd, hs⟩ := e
  obtain ⟨⟨cls2, dd2, data2, sl2⟩, n2, ho2, hc2, hd2, hs2⟩ := e2
  simp only at hc hd hs hc2 hd2 hs2
  subst hc hd hs hc2 hd2 hs2
  refine concat_meets ⟨_, ho, rfl⟩ ⟨_, ho2, rfl⟩ noFill_list_add seq_list_add PySem.F.slot_list_add PySem.F.entry_list_add (PySem.F.args_list_add_2 _ _) (list_addW l b its.toArray its2.toArray n n2 none none sl sl2 (by simp only [List.size_toArray]; omega)) ⟨ho, ho2, ?_⟩
  have ea : its.toArray ++ its2.toArray = (its ++ its2).toArray := by simp
  rw [ea]
  exact ⟨.ref _, _, I.lnew (t' := s.toks) (r.append r2) (by rw [List.length_append]; omega), rfl, q _ I.fresh⟩
def lsOf : R → Option (List PyData)
  | .f xs => some xs
  | .b xs => some xs
  | .d (.list xs) => some xs
  | _ => none
theorem ImR.lsq {K : PySem.W.Frag} {sp : Option Addr} {fz : Fz} {H H0 : Hp} {v : V} {x : R} {xs : List PyData} (i : ImR K sp H0 fz H v x) (e : lsOf x = some xs) : ∃ a vs, v = .ref a ∧ SqL K H a vs ∧ ImA K fz H vs xs := by
  unfold lsOf at e
  split at e
  · cases e
    obtain ⟨a, vs, e, h1, h2, _⟩ := i
    exact ⟨a, vs, e, .inl (.inl h1), h2⟩
  · cases e
    obtain ⟨a, vs, e, h1, h2, _⟩ := i
    exact ⟨a, vs, e, .inl (.inl h1), h2⟩
  · cases e
    cases (show Im K fz H v _ from i) with
    | lst h a => exact ⟨_, _, rfl, h.sq, a⟩
  · cases e
def fCat (x y : R) : Option R := match lsOf x, lsOf y with
  | some xs, some ys => if xs.length + ys.length ≤ sizeLine then some (.f (xs ++ ys)) else none
  | _, _ => none
theorem ok_catL {K : PySem.W.Frag} : Ok2 K (rCatL K) fCat := by
  intro sp fz H H0 sto v w x y z Q B ix iy e k
  unfold fCat at e
  split at e
  · rename_i xs ys ex ey
    split at e
    · rename_i hz
      cases e
      obtain ⟨a, vs, rfl, h1, h2⟩ := ix.lsq ex
      obtain ⟨b, ws, rfl, h3, h4⟩ := iy.lsq ey
      refine ⟨a, b, vs, ws, rfl, rfl, h1, h3, by rw [h2.length, h4.length]; exact hz, fun p hp => ?_⟩
      obtain ⟨s, l, i⟩ := new_lst B (h2.append h4) hp
      exact k _ fz _ s l i
    · cases e
  · cases e
section
variable {X : Cx} {a b : Expr} {ma mb : Mx} {pos : Pos}
theorem se_cat (ha : SE X a ma) (hb : SE X b mb) : SE X (.BinOp a .Add b pos) (m2 fCat ma mb) := se_op op_catL ok_catL ha hb
end
end Dh
namespace Dh
open PySem PySem.Spec PyProof.Rows L2 PySem.W
def mPar2f (i j : Nat) (a : Ma) : Ms := fun ρ s => match a ρ s with
  | some ([.f c, .f d], s1) => some (.nx, (ρ.set i (some (.o c))).set j (some (.o d)), s1)
  | _ => none
section
variable {X : Cx} {i j : Nat} {x y : Str} {a b : Expr} {m : Ma} {px py pt pos : Pos} {kt k2 pt2}
theorem ss_par2f (hc : X.calm = true) (hN : X.N.Nodup) (ha : SA2 X [a, b] m) (hi : X.N[i]? = some x := by rfl) (hj : X.N[j]? = some y := by rfl) (hij : i ≠ j := by decide)
    (hx : X.env.scope.names.lookup x = some .local := by rfl) (hy : X.env.scope.names.lookup y = some .local := by rfl)
    (hw : swappedStores [.Tuple [.Name x px, .Name y py] kt pt] (.Tuple [a, b] k2 pt2) X.env = pure (some [x, y]) := by rfl)
    (hs : swapsWithSole [.Tuple [.Name x px, .Name y py] kt pt] (.Tuple [a, b] k2 pt2) pos.line X.env = pure false := by rfl) :
    SS X (.Assign [.Tuple [.Name x px, .Name y py] kt pt] (.Tuple [a, b] k2 pt2) pos) (mPar2f i j m) := PS.impI (ps_par hc hN hi hj hij hx hy ha hw hs) fun D σ H hl h => by
  obtain ⟨C, fz, ρ, sto, out, ρ', sto', F, e, k⟩ := h
  have hi' := lt_of_slot hi hl
  have hj' := lt_of_slot hj hl
  unfold mPar2f at e
  split at e
  · rename_i c1 d1 s1 e1
    cases e
    refine ⟨C, fz, ρ, sto, _, _, F, e1, fun vs fz1 H1 st1 l1 i1 dd => ?_⟩
    cases i1 with
    | cons iv t =>
      cases t with
      | cons iw t =>
        cases t
        rename_i v w
        refine ⟨v, w, rfl, ?_⟩
        have F1 := F.give st1 l1 iv (c := .o c1) rfl hi'
        obtain ⟨p, vs1, rfl, a1, a2, a3, a4, a5⟩ := iv
        obtain ⟨q, vs2, rfl, b1, b2, b3, b4, b5⟩ := iw
        have npq : q ≠ p := fun e => dd 0 1 p c1 d1 (by decide) rfl rfl rfl (by rw [e]; rfl)
        refine k fz1 _ H1 (F1.put j (by rw [List.length_set]; exact hj') ⟨q, vs2, List.getElem?_set_self (by rw [List.length_set]; exact hj'), b1, b2, b3, b4, F.st.back b4 b5⟩ ?_) st1.sts
        intro xs a ec ev n ys hn g1 g2
        cases ev
        by_cases en : n = i
        · subst en
          rw [List.getElem?_set_self hi'] at g2
          cases g2
          exact npq rfl
        · rw [List.getElem?_set_ne (Ne.symm en)] at g1 g2
          obtain ⟨b, ws, q1, q2, _⟩ := F.owned g1
          rw [g2] at q1; cases q1
          rw [b5] at q2; cases q2
  · cases e
end
end Dh
namespace Dh
open PySem PySem.Spec PyProof.Rows L2 PySem.W
section
variable {K : PySem.W.Frag} {C : Cn} {fz fz1 : Fz} {ρ ρ1 : Ev} {sto sto' : Sto} {σ σ1 : L2.St} {H H1 : Hp}
/-- one more value put, new lists apart from those put before -/
theorem Fm.more (F : Fm K C fz ρ sto σ H) (F1 : Fm K C fz1 ρ1 sto' σ1 H1) {w : V} {q : R} {d : Cl} (iw : ImR K C.sp H fz1 H1 w q) (ed : toCl q = some d) {j : Nat} (hj : j < σ1.length)
    (old : ∀ n ys a, n ≠ j → ρ1[n]? = some (some (.o ys)) → σ1[n]? = some (some (.ref a)) → (ρ[n]? = some (some (.o ys)) ∧ σ[n]? = some (some (.ref a))) ∨ ∀ xs, q = .f xs → w ≠ .ref a) :
    Fm K C fz1 (ρ1.set j (some d)) sto' (σ1.set j (some w)) H1 := by
  refine F1.put j hj ?_ ?_
  · have g : (σ1.set j (some w))[j]? = some (some w) := List.getElem?_set_self hj
    cases q with
    | d x => cases ed; exact ⟨w, g, iw⟩
    | f xs =>
      cases ed
      obtain ⟨a, vs, rfl, h1, h2, h3, h4, h5⟩ := iw
      exact ⟨a, vs, g, h1, h2, h3, h4, F.st.back h4 h5⟩
    | b xs => cases ed
    | s => cases ed; obtain ⟨a, ea, rfl⟩ := (show IsS C.sp w from iw); exact ⟨a, ea, g⟩
    | m acc =>
      cases ed
      obtain ⟨a, vs, rfl, h1, h2, h3, h4, h5⟩ := iw
      exact ⟨a, vs, g, h1, h2, h3, h4, F.st.back h4 h5⟩
    | n acc => cases ed
  · intro xs a ec ev n ys hn h1 h2
    subst ec
    cases q with
    | d x => cases ed
    | b zs => cases ed
    | s => cases ed
    | m _ => cases ed
    | n _ => cases ed
    | f zs =>
      cases ed
      rcases old n ys a hn h1 h2 with ⟨g1, g2⟩ | g
      · obtain ⟨b, vs, eb, h3, h4, h5, h6, h7⟩ := iw
        rw [ev] at eb; cases eb
        obtain ⟨b, ws, q1, q2, _⟩ := F.owned g1
        rw [g2] at q1; cases q1
        rw [h7] at q2; cases q2
      · exact g _ rfl ev
end
end Dh
namespace Dh
open PySem PySem.Spec PyProof.Rows L2 PySem.W
def mPar2g (i j : Nat) (a : Ma) : Ms := fun ρ s => match a ρ s with
  | some ([r, q], s1) => match toCl r, toCl q with
    | some c, some d => some (.nx, (ρ.set i (some c)).set j (some d), s1)
    | _, _ => none
  | _ => none
section
variable {X : Cx} {i j : Nat} {x y : Str} {a b : Expr} {m : Ma} {px py pt pos : Pos} {kt k2 pt2}
theorem ss_par2t (hc : X.calm = true) (hN : X.N.Nodup) (ha : SA2 X [a, b] m) (hi : X.N[i]? = some x := by rfl) (hj : X.N[j]? = some y := by rfl) (hij : i ≠ j := by decide)
    (hx : Loc X.env.scope x := by first | exact Or.inl rfl | exact Or.inr rfl) (hy : Loc X.env.scope y := by first | exact Or.inl rfl | exact Or.inr rfl)
    (fx : X.fn x = true ∨ X.env.scope.names.lookup x = some .local := by first | exact .inl rfl | exact .inr rfl) (fy : X.fn y = true ∨ X.env.scope.names.lookup y = some .local := by first | exact .inl rfl | exact .inr rfl)
    (hs : swapsWithSole [.Tuple [.Name x px, .Name y py] kt pt] (.Tuple [a, b] k2 pt2) pos.line X.env = pure false := by rfl)
    (hw : swappedStores [.Tuple [.Name x px, .Name y py] kt pt] (.Tuple [a, b] k2 pt2) X.env = pure none := by rfl)
    (h1 : (assignEach [.Tuple [.Name x px, .Name y py] kt pt] X.env).map (·.2) = [assign (.Tuple [.Name x px, .Name y py] kt pt) X.env] := by rfl)
    (hn : (assignEach [.Name x px, .Name y py] X.env).length = 2 := by rfl) (hst : (assignEach [.Name x px, .Name y py] X.env).findIdx? (·.1) = none := by rfl)
    (s1 : (assignEach [.Name x px, .Name y py] X.env).map (·.2) = assign (.Name x px) X.env :: (assignEach [.Name y py] X.env).map (·.2) := by rfl)
    (s2 : (assignEach [.Name y py] X.env).map (·.2) = assign (.Name y py) X.env :: (assignEach [] X.env).map (·.2) := by rfl) :
    SS X (.Assign [.Tuple [.Name x px, .Name y py] kt pt] (.Tuple [a, b] k2 pt2) pos) (mPar2g i j m) :=
  PS.impI (ps_asg (pe_tup ha) (pg_tup hc (pgs_cons (pg_name hN hi hx fx) (pgs_cons (pg_name hN hj hy fy) pgs_nil s2) s1) hn hst) hs hw h1) fun D σ H hlen h => by
  obtain ⟨C, fz, ρ, sto, out, ρ', sto', F, e, k⟩ := h
  have hi' := lt_of_slot hi hlen
  have hj' := lt_of_slot hj hlen
  unfold mPar2g at e
  split at e
  · rename_i r q s1 e1
    split at e
    · rename_i c1 d1 ec ed
      cases e
      refine ⟨C, fz, ρ, sto, _, _, F, e1, fun vs fz1 H1 st1 l1 i1 dd => ?_⟩
      cases i1 with
      | cons iv t =>
        cases t with
        | cons iw t =>
          cases t
          rename_i v w
          refine ⟨(show 2 ≤ sizeLine by decide), fun p hp => ⟨p, [v, w], rfl, .inl (.inl upd_same), rfl, v, [w], rfl, w, [], rfl, rfl, ?_⟩⟩
          have B1 := F.bs.step st1 l1
          have lay : Stp C.sp fz1 H1 fz1 (upd H1 p (.tup [v, w])) := .laid hp
          have ep : some p ≠ C.sp := l1.ne hp (by intro z; cases z)
          have l2 := (SpL.upd (o := .tup [v, w]) l1 ep)
          have st2 := st1.trans lay
          have iv2 := iv.stp lay B1
          have iw2 := iw.stp lay B1
          have fr : ∀ {r' : R} {ys : List PyData}, toCl r' = some (.o ys) → r' = .f ys := fun {r'} {ys} e => by
            cases r' with
            | d x => cases e
            | f zs => cases e; rfl
            | b zs => cases e
            | s => cases e
            | m _ => cases e
            | n _ => cases e
          have hρ : ρ.length = σ.length := F.len
          have F1 := F.give st2 l2 iv2 ec hi'
          have F2 := F.more F1 iw2 ed (j := j) (by rw [List.length_set]; exact hj') fun n ys a hn g1 g2 => by
            by_cases en : n = i
            · subst en
              right
              intro xs eq ew
              rw [List.getElem?_set_self (by rw [hρ]; exact hi')] at g1
              rw [List.getElem?_set_self hi'] at g2
              cases g1
              cases g2
              exact dd 0 1 a ys xs (by decide) rfl (by rw [fr ec]; rfl) (by rw [eq]; rfl) (by rw [ew]; rfl)
            · rw [List.getElem?_set_ne (Ne.symm en)] at g1 g2
              exact .inl ⟨g1, g2⟩
          exact k fz1 _ _ F2 st2.sts
    · cases e
  · cases e
end
end Dh
namespace Dh
open PySem PySem.Spec PyProof.Rows L2
def fEqE (neg : Bool) : R → R → Option R
  | .d (.tuple xs), .d (.tuple []) => some (.d (.bool (if neg then !xs.isEmpty else xs.isEmpty)))
  | _, _ => none
def rEqE (K : PySem.W.Frag) (neg : Bool) : R2 := fun x y H Q => ∃ (a b : Addr) (xs : List V), x = .ref a ∧ y = .ref b ∧ SqT K H a xs ∧ SqT K H b [] ∧ Q (.bl (if neg then !xs.isEmpty else xs.isEmpty)) H
section
variable {X : Cx} {pos : Pos} {a b : Expr} {ma mb : Mx}
theorem op_eqE (hu : X.A.units < cLine) : OpR X (compareOp .Eq) (rEqE X.K false) := by
  intro pins s σ H x y v u Q I rx ry h
  obtain ⟨a, b, xs, rfl, rfl, ha, hb, q⟩ := h
  cases (show v = Value.ref a from rx)
  cases (show u = Value.ref b from ry)
  obtain ⟨us, r1, p1, _⟩ := I.tuple ha
  obtain ⟨ws, r2, p2, _⟩ := I.tuple hb
  cases r2
  refine SeqAt.RcAt.tuples (e := fun _ => true) p1 p2 hu (fun j _ h2 => absurd h2 (Nat.not_lt_zero j)) _ _ _ _ ?_
  refine ⟨.bl xs.isEmpty, H, I, ?_, q⟩
  show RelV (.bl xs.isEmpty) (Value.bool _)
  have e : ((List.range (min us.toArray.size (#[] : Array Value).size)).all (fun _ => true) && us.toArray.size == (#[] : Array Value).size) = xs.isEmpty := by
    cases r1 with
    | nil => rfl
    | cons _ _ => simp
  rw [show (List.toArray ([] : List Value)) = #[] from rfl, e]
  rfl
theorem ok_eqE (neg : Bool) : Ok2 X.K (rEqE X.K neg) (fEqE neg) := by
  intro sp fz H H0 sto v w x y z Q B ix iy h k
  unfold fEqE at h
  split at h
  · rename_i ds
    cases h
    cases ix with
    | tup h1 a1 =>
      cases iy with
      | tup h2 a2 =>
        cases a2
        rename_i a xs b
        have e : xs.isEmpty = ds.isEmpty := by cases a1 <;> rfl
        refine ⟨a, b, xs, rfl, rfl, h1.sq, h2.sq, ?_⟩
        rw [e]
        exact k _ fz H .refl B.spl (.bl _)
  · cases h
theorem sb_eqE {k : Nat} (hr : Room k X.A) (ha : SE X a ma) (hb : SE X b mb) : SB X (.Compare a [.Eq] [b] pos) (bT (m2 (fEqE false) ma mb)) := sb_cmp (op_eqE (by have := hr.units; omega)) (ok_eqE false) ha hb (nomark _)
end
end Dh
namespace Dh
open PySem PySem.Spec L2
section
variable {K : PySem.W.Frag} {C : Cn} {sp : Option Addr} {fz fz1 : Fz} {ρ : Ev} {sto sto' : Sto} {σ : L2.St} {H H0 H1 : Hp}
/-- all dicts but the one in slot i are forgotten -/
def frgM (ρ : Ev) : Ev := ρ.map fun c => match c with
  | some (.m _) => none
  | c => c
theorem frgM_some {ρ : Ev} {j : Nat} {c : Cl} (h : (frgM ρ)[j]? = some (some c)) : ρ[j]? = some (some c) ∧ ∀ acc, c ≠ .m acc := by
  unfold frgM at h
  rw [List.getElem?_map] at h
  cases q : ρ[j]? with
  | none => rw [q] at h; cases h
  | some o =>
    rw [q] at h
    cases o with
    | none => cases h
    | some c' =>
      cases c' with
      | m acc => cases h
      | d x => cases h; exact ⟨rfl, fun acc z => nomatch z⟩
      | o x => cases h; exact ⟨rfl, fun acc z => nomatch z⟩
      | s => cases h; exact ⟨rfl, fun acc z => nomatch z⟩
theorem frgM_len {ρ : Ev} : (frgM ρ).length = ρ.length := by unfold frgM; rw [List.length_map]
/-- an own dict is written -/
theorem Fm.writeM (F : Fm K C fz ρ sto σ H) {i : Nat} {acc acc' : List (Key × PyData)} {a : Addr} {ws : List (Key × V)} (h : ρ[i]? = some (some (.m acc))) (ha : σ[i]? = some (some (.ref a))) (im : ImK K fz H ws acc') :
    Fm K C fz ((frgM ρ).set i (some (.m acc'))) sto σ (upd H a (.dK ws)) ∧ Sts C.sp fz H fz (upd H a (.dK ws)) := by
  obtain ⟨b, vs, e1, h2, h3, h4, h5, h6⟩ := F.vars i _ h
  rw [ha] at e1; cases e1
  have hi : i < ρ.length := (List.getElem?_eq_some_iff.mp h).1
  have S : Sts C.sp fz H fz (upd H a (.dK ws)) := ⟨fun _ q => q, fun b o q n c => by
    have : b ≠ a := fun z => by
      subst z
      rcases c with c | c
      · exact h4 c
      · rw [h2] at q; cases q; exact c.2 _ rfl
    rw [upd_ne this]; exact q⟩
  refine ⟨⟨by rw [List.length_set, frgM_len, F.len], ⟨F.st.mono, fun b o q n => ?_, F.st.new, fun t b q z => ?_⟩, ⟨?_, F.bs.nsp, fun b q z => ?_⟩, fun j c q => ?_, fun j k us zs b hjk q1 q2 => ?_⟩, S⟩
  · have : b ≠ a := fun z => by subst z; rw [h6] at q; cases q
    rw [upd_ne this]; exact F.st.ext b o q n
  · by_cases e : b = a
    · subst e; rw [upd_same] at z; cases z
    · rw [upd_ne e] at z; exact F.st.trk t b q z
  · exact F.bs.spl.upd h5
  · by_cases e : b = a
    · subst e; rw [upd_same] at z; cases z
    · rw [upd_ne e] at z; exact F.bs.trk b q z
  · by_cases ej : j = i
    · subst ej
      rw [List.getElem?_set_self (by rw [frgM_len]; exact hi)] at q
      cases q
      exact ⟨a, ws, ha, upd_same, ⟨im.1, im.2.sts S F.bs⟩, h4, h5, h6⟩
    · rw [List.getElem?_set_ne (Ne.symm ej)] at q
      obtain ⟨q, nm⟩ := frgM_some q
      have g := F.vars j c q
      cases c with
      | d x => obtain ⟨u, g1, g2⟩ := g; exact ⟨u, g1, g2.sts S F.bs⟩
      | o us =>
        obtain ⟨b, ts, g1, g2, g3, g4, g5, g6⟩ := g
        have : b ≠ a := fun z => by subst z; rw [h2] at g2; cases g2
        exact ⟨b, ts, g1, by rw [upd_ne this]; exact g2, g3.sts S F.bs, g4, g5, g6⟩
      | s => exact g
      | m acc2 => exact absurd rfl (nm acc2)
  · have ej : j ≠ i := fun z => by
      subst z
      rw [List.getElem?_set_self (by rw [frgM_len]; exact hi)] at q1
      cases q1
    have ek : k ≠ i := fun z => by
      subst z
      rw [List.getElem?_set_self (by rw [frgM_len]; exact hi)] at q2
      cases q2
    rw [List.getElem?_set_ne (Ne.symm ej)] at q1
    rw [List.getElem?_set_ne (Ne.symm ek)] at q2
    exact F.sep j k us zs b hjk (frgM_some q1).1 (frgM_some q2).1
end
def mSetDc (i : Nat) (it : Mi) (vs : List Nat) (g : Gx) (t : Mt) (ek ev : Mx) : Ms := fun ρ s => match it ρ s with
  | some (xs, s1) => match dcRun vs g t ek ev xs [] ρ s1 with
    | some (acc, s2) => some (.nx, ρ.set i (some (.m acc)), s2)
    | none => none
  | none => none
section
variable {X : Cx} {kx vx tg iter : Expr} {ifs : List Expr} {scope : Scope} {own : List (Str × Nat)} {pos spos p : Pos} {is : List Nat} {mi : Mi} {g : Gx} {mt : Mt} {mk mv : Mx} {i : Nat} {x : Str}
theorem ss_setDc (hc : X.calm = true) (hN : X.N.Nodup) (hx0 : X.N[i]? = some x) (hx : Loc X.env.scope x) (hi : SI X tg iter mi) (ok : BlkOk X.N X.env.scope scope own) (hs : ∀ i, i ∈ is → i ∈ own.map (·.2))
    (hg : ∀ (s : Shared) (H : Hp) (C : Addr) (cl : List (Str × Addr)) (fp : List Addr), SG (X.blk s H scope (compEnvC scope cl C X.env) fp) tg is g) (ht : ∀ (s : Shared) (H : Hp) (C : Addr) (cl : List (Str × Addr)) (fp : List Addr), STs (X.blk s H scope (compEnvC scope cl C X.env) fp) ifs mt)
    (hk : ∀ (s : Shared) (H : Hp) (C : Addr) (cl : List (Str × Addr)) (fp : List Addr), SE (X.blk s H scope (compEnvC scope cl C X.env) fp) kx mk)
    (he : ∀ (s : Shared) (H : Hp) (C : Addr) (cl : List (Str × Addr)) (fp : List Addr), SE (X.blk s H scope (compEnvC scope cl C X.env) fp) vx mv) (hf : ∀ x, foldedSetIterable iter X.env x = pure x := by intro _; rfl)
    (hsw : swapsWith (.DictComp kx vx [⟨tg, iter, ifs, 0⟩] scope pos) (some (.Name x p)) spos.line X.env = pure false := by rfl) (hw : swappedStores [.Name x p] (.DictComp kx vx [⟨tg, iter, ifs, 0⟩] scope pos) X.env = pure none := by rfl)
    (hfn : X.fn x = true ∨ X.env.scope.names.lookup x = some .local := by first | exact .inl rfl | exact .inr rfl) :
    SS X (.Assign [.Name x p] (.DictComp kx vx [⟨tg, iter, ifs, 0⟩] scope pos) spos) (mSetDc i mi (own.map (·.2)) g mt mk mv) :=
  PS.impI (ps_asg (pe_dc (g := rdG X.K is g) (tt := rdT X.K mt) (tk := rdE X.K mk) (tv := rdE X.K mv) hc hN hi ok hg ht hk he hf) (pg_name hN hx0 hx hfn) hsw hw) fun D σ H hl h => by
    obtain ⟨C, fz, ρ, sto, out, ρ', sto', F, e, k⟩ := h
    unfold mSetDc at e
    split at e
    · rename_i xs s1 e1
      split at e
      · rename_i acc s2 e2
        cases e
        exact rd_dcK hs F e1 e2 fun D' fz2 H2 kvs st B hD2 im2 nf nD n0 =>
          k fz2 _ H2 (F.give st B.spl (r := .m acc) ⟨D', kvs, rfl, hD2, im2, nf, nD, n0⟩ rfl (lt_of_slot hx0 hl)) st.sts
      · cases e
    · cases e
end
def fInM (neg : Bool) : R → R → Option R := fun x y => match keyP x, y with
  | some k, .n acc => some (.d (.bool (if neg then !(valP acc k).isSome else (valP acc k).isSome)))
  | some k, .d (.dict ds) => some (.d (.bool (if neg then !((ds.find? fun p => kEq p.1 k).map (·.2)).isSome else ((ds.find? fun p => kEq p.1 k).map (·.2)).isSome)))
  | _, _ => none
theorem ImK.isSome {K : PySem.W.Frag} {fz : Fz} {H : Hp} {kvs : List (Key × V)} {acc : List (Key × PyData)} {k : Key} (im : ImK K fz H kvs acc) : (valV kvs k).isSome = (valP acc k).isSome := by
  obtain ⟨g1, g2⟩ := im.val (k := k)
  cases q : valV kvs k with
  | none => rw [g2 q]; rfl
  | some v =>
    obtain ⟨d, e, _⟩ := g1 v q
    rw [e]; rfl
theorem dct_isSome {K : PySem.W.Frag} {fz : Fz} {H : Hp} {k : Key} {kvs : List (Key × V)} {ds : List (PyData × PyData)} (a : ImA K fz H (kvs.map fun p => kV p.1) (ds.map (·.1))) (b : ImA K fz H (kvs.map (·.2)) (ds.map (·.2))) :
    (valV kvs k).isSome = ((ds.find? fun p => kEq p.1 k).map (·.2)).isSome := by
  obtain ⟨g1, g2⟩ := dct_val (k := k) a b
  cases q : valV kvs k with
  | none => rw [g2 q]; rfl
  | some v =>
    obtain ⟨d, e, _⟩ := g1 v q
    rw [e]; rfl
theorem unitsM {A : Around} {k : Nat} (hr : Room k A) : A.units + 1 < cLine := by
  have := hr.un
  omega
section
variable {X : Cx} {a b e : Expr} {ma mb m : Mx} {pos p : Pos} {kk : Nat}
theorem rd_inM {K : PySem.W.Frag} {σ : L2.St} {H : Hp} {Q : VK} (h : rdE K (m2 (fInM false) ma mb) σ H Q) : tDIn (rdE K ma) (rdE K mb) σ H Q := by
  obtain ⟨C, fz, ρ, sto, z, sto', F, e, k⟩ := h
  obtain ⟨x, s1, ea, e1⟩ := bnd_some e
  obtain ⟨y, s2, eb, e2⟩ := bnd_some e1
  obtain ⟨ef, rfl⟩ := ret_some e2
  clear e e1 e2
  refine ⟨C, fz, ρ, sto, x, s1, F, ea, fun v fz1 H1 st1 l1 i1 => ⟨C, fz1, ρ, s1, y, _, F.step st1 l1, eb, fun w fz2 H2 st2 l2 i2 => ?_⟩⟩
  unfold fInM at ef
  split at ef
  · rename_i kx acc ek
    cases ef
    obtain ⟨a, kvs, rfl, hd, im, ns⟩ := i2
    have ev := keyP_im i1 ek
    subst ev
    refine ⟨a, valV kvs kx, rfl, DGet.k hd, ?_⟩
    rw [im.isSome]
    exact k _ fz2 H2 (st1.trans st2) l2 (.bl _)
  · rename_i kx ds ek
    cases ef
    have ev := keyP_im i1 ek
    subst ev
    cases i2 with
    | dct hd hf hk hv =>
      rename_i a kvs
      refine ⟨a, valV kvs kx, rfl, DGet.k hd, ?_⟩
      rw [dct_isSome hk hv]
      exact k _ fz2 H2 (st1.trans st2) l2 (.bl _)
  · cases ef
theorem rd_notinM {K : PySem.W.Frag} {σ : L2.St} {H : Hp} {Q : VK} (h : rdE K (m2 (fInM true) ma mb) σ H Q) : tDNotIn (rdE K ma) (rdE K mb) σ H Q := by
  obtain ⟨C, fz, ρ, sto, z, sto', F, e, k⟩ := h
  obtain ⟨x, s1, ea, e1⟩ := bnd_some e
  obtain ⟨y, s2, eb, e2⟩ := bnd_some e1
  obtain ⟨ef, rfl⟩ := ret_some e2
  clear e e1 e2
  refine ⟨C, fz, ρ, sto, x, s1, F, ea, fun v fz1 H1 st1 l1 i1 => ⟨C, fz1, ρ, s1, y, _, F.step st1 l1, eb, fun w fz2 H2 st2 l2 i2 => ?_⟩⟩
  unfold fInM at ef
  split at ef
  · rename_i kx acc ek
    cases ef
    obtain ⟨a, kvs, rfl, hd, im, ns⟩ := i2
    have ev := keyP_im i1 ek
    subst ev
    refine ⟨a, valV kvs kx, rfl, DGet.k hd, ?_⟩
    rw [im.isSome]
    exact k _ fz2 H2 (st1.trans st2) l2 (.bl _)
  · rename_i kx ds ek
    cases ef
    have ev := keyP_im i1 ek
    subst ev
    cases i2 with
    | dct hd hf hk hv =>
      rename_i a kvs
      refine ⟨a, valV kvs kx, rfl, DGet.k hd, ?_⟩
      rw [dct_isSome hk hv]
      exact k _ fz2 H2 (st1.trans st2) l2 (.bl _)
  · cases ef
theorem se_inM (hr : Room kk X.A) (ha : SE X a ma) (hb : SE X b mb) (hm : behindInMarks .In b = false := by rfl) : SE X (.Compare a [.In] [b] pos) (m2 (fInM false) ma mb) := PE.imp (pe_cmp (pc_din (unitsM hr) ha hb) hm) fun _ _ _ h => rd_inM h
theorem sb_notinM (hr : Room kk X.A) (ha : SE X a ma) (hb : SE X b mb) (hm : behindInMarks .NotIn b = false := by rfl) : SB X (.Compare a [.NotIn] [b] pos) (bT (m2 (fInM true) ma mb)) := PT.imp (pt_cmp (pc_dnotin (unitsM hr) ha hb) hm) fun _ _ _ h => rd_notinM (rd_bT h)
def fIxM : R → R → Option R := fun x y => match x, keyP y with
  | .n acc, some k => (valP acc k).map .d
  | .d (.dict ds), some k => ((ds.find? fun p => kEq p.1 k).map (·.2)).map .d
  | _, _ => none
theorem se_ixM (hr : Room kk X.A) (ha : SE X a ma) (hb : SE X b mb) (hs : NoSl b := by exact fun _ _ => rfl) : SE X (.Subscript a b pos) (m2 fIxM ma mb) := PE.imp (pe_dget (unitsM hr) ha hb hs) fun σ H Q h => by
  obtain ⟨C, fz, ρ, sto, z, sto', F, e, k⟩ := h
  obtain ⟨x, s1, ea, e1⟩ := bnd_some e
  obtain ⟨y, s2, eb, e2⟩ := bnd_some e1
  obtain ⟨ef, rfl⟩ := ret_some e2
  clear e e1 e2
  refine ⟨C, fz, ρ, sto, x, s1, F, ea, fun v fz1 H1 st1 l1 i1 => ⟨C, fz1, ρ, s1, y, _, F.step st1 l1, eb, fun w fz2 H2 st2 l2 i2 => ?_⟩⟩
  have B1 := (F.step st1 l1).bs
  have i3 := i1.stp st2 B1
  unfold fIxM at ef
  split at ef
  · rename_i acc kx ek
    obtain ⟨d, ed, rfl⟩ := Option.map_eq_some_iff.mp ef
    obtain ⟨a, kvs, rfl, hd, im, ns⟩ := i3
    have ev := keyP_im i2 ek
    subst ev
    obtain ⟨g1, g2⟩ := im.val (k := kx)
    cases q : valV kvs kx with
    | none => rw [g2 q] at ed; cases ed
    | some u =>
      obtain ⟨d', e', iu⟩ := g1 u q
      rw [ed] at e'; cases e'
      exact ⟨a, u, rfl, q ▸ DGet.k hd, k _ fz2 H2 (st1.trans st2) l2 iu⟩
  · rename_i ds kx ek
    obtain ⟨d, ed, rfl⟩ := Option.map_eq_some_iff.mp ef
    have ev := keyP_im i2 ek
    subst ev
    cases i3 with
    | dct hd hf hk hv =>
      rename_i a kvs
      obtain ⟨g1, g2⟩ := dct_val (k := kx) hk hv
      cases q : valV kvs kx with
      | none => rw [g2 q] at ed; cases ed
      | some u =>
        obtain ⟨d', e', iu⟩ := g1 u q
        rw [ed] at e'; cases e'
        exact ⟨a, u, rfl, q ▸ DGet.k hd, k _ fz2 H2 (st1.trans st2) l2 iu⟩
  · cases ef
end
def fLenM : List R → Option R
  | [.n acc] => some (.d (.int acc.length))
  | [.d (.dict ds)] => some (.d (.int ds.length))
  | _ => none
section
variable {X : Cx} {x : Str} {p pos : Pos} {e : Expr} {es : List Expr} {m : Ma}
theorem ok_lenM : OkA X.K (fun xs H Q => ∃ a kvs, xs = [V.ref a] ∧ H a = some (.dK kvs) ∧ Q (.int kvs.length) H) fLenM := by
  intro sp fz fzS H H0 sto vs xs z Q s B i e k
  unfold fLenM at e
  split at e
  · cases e
    cases i with
    | cons i1 t =>
      cases t
      obtain ⟨a, kvs, rfl, hd, im, ns⟩ := i1
      refine ⟨a, kvs, rfl, hd, ?_⟩
      rw [im.len]
      exact k _ _ H s B.spl (.int _)
  · cases e
    cases i with
    | cons i1 t =>
      cases t
      cases i1 with
      | dct hd hf hk hv =>
        rename_i ds a kvs
        refine ⟨a, kvs, rfl, hd, ?_⟩
        have : kvs.length = ds.length := by have := hk.length; simpa using this
        rw [this]
        exact k _ _ H s B.spl (.int _)
  · cases e
theorem se_lenM (ha : SA X (e :: es) m) (hm : X.mg "len" = none) (hg : Gl X "len" := by rfl) (he : starEach (e :: es) X.env = (false, eval e X.env) :: starEach es X.env := by rfl) (hpl : (backTo pos (starEach es X.env)).any (·.1) = false := by rfl) : SE X (.Call (.Name "len" p) (e :: es) [] pos) (mA fLenM m) :=
  se_bi call_lenD ok_lenM ha hm PySem.boot_len hg (by decide) (by decide) he hpl
end
def mPutM (i : Nat) (ix a : Mx) : Ms := fun ρ s => match a ρ s with
  | some (r, s1) => match ix ρ s1 with
    | some (rk, s2) => match ρ[i]?, keyP rk, toD r with
      | some (some (.m acc)), some k, some x => if acc.length < sizeLine then some (.nx, (frgM ρ).set i (some (.m (putP acc k x))), s2) else none
      | _, _, _ => none
    | none => none
  | none => none
section
variable {X : Cx} {e : Expr} {me mi : Mx} {pos : Pos} {kk : Nat}
/-- hg is pg_sub (pv i) hix (set_dict ..) -/
theorem ss_putM {i : Nat} {tg : Expr} (he : SE X e me) (hg : PG X tg (gSub (tVar i) (rdE X.K mi) rSetD))
    (hs : swapsWithSole [tg] e pos.line X.env = pure false := by rfl) (hw : swappedStores [tg] e X.env = pure none := by rfl) (h1 : (assignEach [tg] X.env).map (·.2) = [assign tg X.env] := by rfl) : SS X (.Assign [tg] e pos) (mPutM i mi me) :=
  PS.imp (ps_asg he hg hs hw h1) fun D σ H h => by
  obtain ⟨C, fz, ρ, sto, out, ρ', sto', F, e, k⟩ := h
  unfold mPutM at e
  split at e
  · rename_i r s1 e1
    split at e
    · rename_i rk s2 e2
      split at e
      · rename_i acc kx x ex ek er
        split at e
        · rename_i hz
          cases e
          refine ⟨C, fz, ρ, sto, r, s1, F, e1, fun v fz1 H1 st1 l1 i1 => ?_⟩
          have F1 := F.step st1 l1
          obtain ⟨a, vs, ha, h2, h3, h4, h5, h6⟩ := F.vars _ _ ex
          refine ⟨_, ha, C, fz1, ρ, s1, _, _, F1, e2, fun w fz2 H2 st2 l2 i2 => ?_⟩
          have ew := keyP_im i2 ek
          subst ew
          obtain ⟨fz3, F3, st3, im⟩ := F.keep (st1.trans st2) l2 (i1.stp st2 F1.bs) er
          obtain ⟨a', vs', ha', q2, q3, q4, q5, q6⟩ := F3.vars _ _ ex
          rw [ha] at ha'; cases ha'
          obtain ⟨F4, S4⟩ := F3.writeM ex ha (q3.put (k := kx) im)
          exact ⟨a, _, rfl, DPut.k q2 (by rw [q3.len]; exact hz), k fz3 σ _ F4 (st3.sts.trans S4)⟩
        · cases e
      · cases e
    · cases e
  · cases e
end
def toArgD : R → Option Cl
  | .n acc => some (.d (dOf acc))
  | r => toArg r
def toArgDs : List R → Option (List Cl)
  | [] => some []
  | r :: rs => match toArgD r, toArgDs rs with
    | some x, some xs => some (x :: xs)
    | _, _ => none
def flatD : PyData → Bool
  | .int _ => true
  | .bool _ => true
  | .none => true
  | .str _ => true
  | _ => false
def mCallD (g : Fx) (a : Ma) : Mx := bnd a fun rs _ s => match toArgDs rs with
  | some cs => match g cs s with
    | some (.d x, s') => if flatD x = true then some (.d x, s') else none
    | _ => none
  | none => none
section
variable {K : PySem.W.Frag} {sp : Option Addr} {fz fz1 : Fz} {H H1 H2 : Hp} {sto : Sto}
theorem Im.flat {v : V} {x : PyData} (h : Im K fz H v x) (hf : flatD x = true) : Im K fz1 H1 v x := by
  cases h with
  | non => exact .non
  | bl b => exact .bl b
  | int i => exact .int i
  | str x => exact .str x
  | lst _ _ => cases hf
  | tup _ _ => cases hf
  | dct _ _ _ _ => cases hf
theorem bs_more {a : Addr} {o : HO} (B : Bs sp fz H1 sto) (h1 : H1 a = some o) (n : some a ≠ sp) : Bs sp (fun b => fz b ∨ b = a) H1 sto := ⟨B.spl, fun c ec q => by
  rcases q with q | q
  · exact B.nsp c ec q
  · exact n (by subst q; exact ec.symm), fun b q z => by
  rcases q with q | q
  · exact B.trk b q z
  · subst q; rw [h1] at z; cases z⟩
theorem ImRs.argsD : ∀ {vs : List V} {rs : List R} {cs : List Cl}, ImRs K sp H fz1 H1 vs rs → toArgDs rs = some cs → ∀ fzA : Fz, Bs sp fzA H1 sto → (∀ a, fz1 a → fzA a) →
    ∃ fz2 : Fz, Bs sp fz2 H1 sto ∧ (∀ a, fzA a → fz2 a) ∧ Paired (ArgOk K fz2 sp H1) vs cs
  | _, _, _, .nil, e, fzA, BA, g => by
    cases e
    exact ⟨fzA, BA, fun _ h => h, .nil⟩
  | _, _, _, .cons (a := v) (b := r) h t, e, fzA, BA, g => by
    unfold toArgDs at e
    split at e
    · rename_i x xs e1 e2
      cases e
      have : ∃ fzB : Fz, Bs sp fzB H1 sto ∧ (∀ a, fzA a → fzB a) ∧ ArgOk K fzB sp H1 v x := by
        cases r with
        | n acc =>
          cases e1
          obtain ⟨a, kvs, rfl, hd, im, n⟩ := h
          have im2 : ImK K (fun b => fzA b ∨ b = a) H1 kvs acc := ⟨im.1, im.2.fzm fun b q => .inl (g b q)⟩
          exact ⟨_, bs_more BA hd n, fun b q => .inl q, .dct hd (.inr rfl) im2.keys im2.vals⟩
        | d y => cases e1; exact ⟨fzA, BA, fun _ h => h, Im.fzm g h⟩
        | f ys =>
          cases e1
          obtain ⟨a, vs, rfl, h1, h2, h3, h4, h5⟩ := h
          exact ⟨_, bs_more BA h1 h4, fun b q => .inl q, .lst (.inl ⟨h1, .inr rfl⟩) (h2.fzm fun b q => .inl (g b q))⟩
        | s => cases e1; exact ⟨fzA, BA, fun _ h => h, h⟩
        | b ys => cases e1
        | m acc => cases e1
      obtain ⟨fzB, BB, gB, iB⟩ := this
      obtain ⟨fz2, B2, g2, i2⟩ := ImRs.argsD t e2 fzB BB fun a q => gB a (g a q)
      exact ⟨fz2, B2, fun a q => g2 a (gB a q), .cons (iB.fzm g2) i2⟩
    · cases e
end
section
variable {X : Cx} {k : Nat} {f : Addr} {fd : FuncData} {ps : List Str} {x : Str} {p pos : Pos} {e : Expr} {es : List Expr} {m : Ma} {g : Fx}
theorem rd_callD {K : PySem.W.Frag} {n : Nat} {σ : L2.St} {H : Hp} {Q : VK} (hn : ∀ cs s r, g cs s = some r → cs.length = n) (h : rdE K (mCallD g m) σ H Q) : tCallG (spOf K n g) (rdA K m) σ H Q := by
  obtain ⟨C, fz, ρ, sto, z, sto', F, e, k⟩ := h
  obtain ⟨rs, s1, ea, e1⟩ := bnd_some e
  clear e
  split at e1
  · rename_i cs ec
    split at e1
    · rename_i x s' eg
      split at e1
      · rename_i hf
        cases e1
        refine ⟨C, fz, ρ, sto, rs, s1, F, ea, fun vs fz1 H1 st1 l1 i1 => ?_⟩
        have B1 := F.bs.step st1 l1
        obtain ⟨fz2, B2, _, a⟩ := ImRs.argsD i1 ec fz1 B1 fun _ h => h
        refine ⟨C.sp, fz2, cs, s1, _, sto', hn cs s1 _ eg, a, B2, eg, fun v fz3 H3 st3 l3 i3 => ?_⟩
        have st4 : Stp C.sp fz1 H1 fz1 H3 := ⟨fun _ h => h, st3.ext, fun _ h => .inl h, fun t b q z => by
          cases q2 : H1 b with
          | none => exact t b q q2
          | some o =>
            have n : some b ≠ C.sp := fun z2 => B1.nsp b z2.symm q
            rw [st3.ext b o q2 n] at z
            cases z⟩
        exact k v fz1 H3 (st1.trans st4) l3 (Im.flat (show Im K fz3 H3 v x from i3) hf)
      · cases e1
    · cases e1
  · cases e1
theorem se_callD {n l : Nat} {mb : Ms} (F : FnG X.prog X.w X.K X.mg X.base k f fd ps (spOf X.K n (run' n l mb))) (hr : Room k X.A) (hgd : X.A.guards = some []) (hm : X.mg x = some (.ref f)) (hk : PySem.W.keepIn X.K (.ref f) = true) (hb : Binds X.K fd ps []) (ha : SA X (e :: es) m) (hg : Gl X x := by rfl)
    (hdb : (x == ("__debug__" : Str)) = false := by decide) (he : starEach (e :: es) X.env = (false, eval e X.env) :: starEach es X.env := by rfl) (hpl : (backTo pos (starEach es X.env)).any (·.1) = false := by rfl) :
    SE X (.Call (.Name x p) (e :: es) [] pos) (mCallD (run' n l mb) m) := PE.imp (pe_callG F hr hgd hm hk hb ha hg hdb he hpl) fun _ _ _ h => rd_callD run'_len h
end
end Dh
namespace Dh
open PySem PySem.Spec L2
end Dh
namespace Dh
open PySem PySem.Spec L2
def fSorted : List R → Option R
  | [x] => match rdL x with | some xs => (intsOf xs).map fun ns => .f ((PySem.W.sortI ns).map PyData.int) | none => none
  | _ => none
theorem imA_ints {K : PySem.W.Frag} {fz : Fz} {H : Hp} : ∀ ns : List Int, ImA K fz H (ns.map V.int) (ns.map PyData.int)
  | [] => .nil
  | _ :: r => .cons (.int _) (imA_ints r)
section
variable {X : Cx} {p pos apos : Pos} {e a : Expr} {es : List Expr} {m : Ma} {ma : Mx}
theorem ok_sorted : OkA X.K (rSortedI X.K) fSorted := by
  intro sp fz fzS H H0 sto vs xs z Q s B i e k
  unfold fSorted at e
  split at e
  · rename_i r
    split at e
    · rename_i ds q
      cases q2 : intsOf ds with
      | none => rw [q2] at e; cases e
      | some bs =>
        rw [q2] at e; cases e
        cases i with
        | cons i t =>
          cases t
          obtain ⟨a, ws, rfl, h, im⟩ := i.list q
          rw [intsOf_im im q2] at h
          refine ⟨a, bs, rfl, h, fun ns' p hp hs hn => ?_⟩
          rw [PySem.W.eq_sortI hp hs]
          obtain ⟨s3, l3, i3⟩ := new_lst B (imA_ints (PySem.W.sortI bs)) hn
          exact k _ fz _ (s.trans s3) l3 (i3.early s)
    · cases e
  · cases e
theorem se_sorted (ha : SA X (e :: es) m) (hm : X.mg "sorted" = none) (hg : Gl X "sorted" := by rfl) (he : starEach (e :: es) X.env = (false, eval e X.env) :: starEach es X.env := by rfl) (hpl : (backTo pos (starEach es X.env)).any (·.1) = false := by rfl) : SE X (.Call (.Name "sorted" p) (e :: es) [] pos) (mA fSorted m) :=
  se_bi cr_sortedI ok_sorted ha hm (by decide +kernel) hg (by decide) (by decide) he hpl
end
end Dh
namespace Dh
open PySem PySem.Spec L2
def fLrg : R → Option R
  | .d (.int j) => if -(2 ^ 62) ≤ j ∧ j ≤ 2 ^ 24 then some (.f (rangeL 0 j.toNat)) else none
  | _ => none
theorem imA_rg {K : PySem.W.Frag} {fz : Fz} {H : Hp} (j : Int) : ImA K fz H (rgV 0 j) (rangeL 0 j.toNat) := by
  unfold rgV rangeL
  rw [Int.sub_zero]
  generalize List.range j.toNat = l
  induction l with
  | nil => exact .nil
  | cons x r ih => exact .cons (.int _) ih
section
variable {X : Cx} {p p2 pos pos2 : Pos} {a : Expr} {ma : Mx}
theorem se_listRange (hc : X.calm = true) (ha : SE X a ma) (hmr : X.mg "range" = none) (hml : X.mg "list" = none) (hgr : Gl X "range" := by rfl) (hgl : Gl X "list" := by rfl)
    (hs : starEach [a] X.env = (false, eval a X.env) :: starEach [] X.env := by rfl)
    (hs2 : starEach [.Call (.Name "range" p) [a] [] pos] X.env = (false, eval (.Call (.Name "range" p) [a] [] pos) X.env) :: starEach [] X.env := by rfl) :
    SE X (.Call (.Name "list" p2) [.Call (.Name "range" p) [a] [] pos] [] pos2) (m1 fLrg ma) := PE.imp (pe_listRg hc hgl hml (prg_1 hgr hmr ha hs) hs2) fun σ H Q h => by
  have h2 : tUn (fun v H Q => ∃ j, v = .int j ∧ RgOk 0 j ∧ ∀ q, H q = none → Q (.ref q) (upd H q (.lst (rgV 0 j)))) (rdE X.K ma) σ H Q := rd_one (by
    intro sp fz H H0 sto v x z Q B ix e k
    unfold fLrg at e
    split at e
    · split at e
      · rename_i j hz
        cases e
        cases ix
        refine ⟨_, rfl, ⟨by omega, by omega, hz.1, by omega, by omega⟩, fun q hq => ?_⟩
        obtain ⟨s3, l3, i3⟩ := new_lst (K := X.K) B (imA_rg j) hq
        exact k _ fz _ s3 l3 (.inl i3)
      · cases e
    · cases e) h
  exact h2
end
end Dh
namespace Dh
open PySem PySem.Spec L2 PySem.W PyProof.Rows
theorem Sk.ext {k : Sk} {K : PySem.W.Frag} {H H' : Hp} {a : Addr} {xs : List V} (h : k.Sq K H a xs) (e : ∀ c o, H c = some o → H' c = some o) : k.Sq K H' a xs := by
  cases k with
  | l =>
    rcases (show SqL K H a xs from h) with (h | ⟨o, h⟩) | h
    · exact .inl (.inl (e _ _ h))
    · exact .inl (.inr ⟨o, e _ _ h⟩)
    · exact .inr h
  | t =>
    rcases (show SqT K H a xs from h) with (h | ⟨o, h⟩) | h
    · exact .inl (.inl (e _ _ h))
    · exact .inl (.inr ⟨o, e _ _ h⟩)
    · exact .inr h
def fLz (rs : List R) : Option R := match zipQ2 rs with
  | some ps => if ps.length ≤ 1000000 then some (.f ps) else none
  | none => none
end Dh
namespace Dh
open PySem PySem.Spec L2 PySem.W
/-- a mark: what it stands for is left as it is -/
inductive Tg {α : Type} (a : α) : Type
  | mk : Tg a
def WO {α : Type} (x : Option α) (Q : α → Prop) (_t : Tg Q := .mk) : Prop := ∃ z, x = some z ∧ Q z
def WX (m : Mx) (ρ : Ev) (s : Sto) (Q : R → Sto → Prop) (_t : Tg (m, Q) := .mk) : Prop := ∃ r s', m ρ s = some (r, s') ∧ Q r s'
def WT (m : Mt) (ρ : Ev) (s : Sto) (Q : Bool → Sto → Prop) (_t : Tg (m, Q) := .mk) : Prop := ∃ r s', m ρ s = some (r, s') ∧ Q r s'
def WA (m : Ma) (ρ : Ev) (s : Sto) (Q : List R → Sto → Prop) (_t : Tg (m, Q) := .mk) : Prop := ∃ r s', m ρ s = some (r, s') ∧ Q r s'
def WI (m : Mi) (ρ : Ev) (s : Sto) (Q : List PyData → Sto → Prop) (_t : Tg (m, Q) := .mk) : Prop := ∃ r s', m ρ s = some (r, s') ∧ Q r s'
def WN (m : Mo) (ρ : Ev) (s : Sto) (Q : Option Int → Sto → Prop) (_t : Tg (m, Q) := .mk) : Prop := ∃ r s', m ρ s = some (r, s') ∧ Q r s'
def WS (m : Ms) (ρ : Ev) (s : Sto) (Q : Out → Ev → Sto → Prop) (_t : Tg (m, Q) := .mk) : Prop := ∃ o ρ' s', m ρ s = some (o, ρ', s') ∧ Q o ρ' s'
def WF (g : Fx) (cs : List Cl) (s : Sto) (Q : R → Sto → Prop) (_t : Tg (g, Q) := .mk) : Prop := ∃ r s', g cs s = some (r, s') ∧ Q r s'
def WFor (g : Gx) (body : Ms) (xs : List PyData) (ρ : Ev) (s : Sto) (Q : Out → Ev → Sto → Prop) (_t : Tg (g, body, Q) := .mk) : Prop := WS (forRun g body xs) ρ s Q
def WWh (c : Mt) (body : Ms) (ρ : Ev) (s : Sto) (Q : Out → Ev → Sto → Prop) (_t : Tg (c, body, Q) := .mk) : Prop := WS (mWhile c body) ρ s Q
def WLc (vs : List Nat) (g : Gx) (t : Mt) (e : Mx) (xs : List PyData) (ρ : Ev) (s : Sto) (Q : List PyData → Sto → Prop) (_t : Tg (vs, g, t, e, Q) := .mk) : Prop := ∃ ys s', lcRun vs g t e xs ρ s = some (ys, s') ∧ Q ys s'
def WLc2 (vs vs1 : List Nat) (g : Gx) (t : Mt) (it1 : Mi) (g1 : Gx) (t1 : Mt) (e : Mx) (xs : List PyData) (ρ : Ev) (s : Sto) (Q : List PyData → Sto → Prop) (_t : Tg (vs, vs1, g, t, it1, g1, t1, e, Q) := .mk) : Prop := ∃ ys s', lcRun2 vs vs1 g t it1 g1 t1 e xs ρ s = some (ys, s') ∧ Q ys s'
def IfK (k : Bool) (A B : Prop) (_t : Tg (A, B) := .mk) : Prop := if k = true then A else B
def seqK (b : Ms) (Q : Out → Ev → Sto → Prop) : Out → Ev → Sto → Prop
  | .nx, ρ, s => WS b ρ s Q
  | o, ρ, s => Q o ρ s
def loopK (J : Ev → Sto → Prop) (Q : Out → Ev → Sto → Prop) : Out → Ev → Sto → Prop
  | .nx, ρ, s => J ρ s
  | .ct, ρ, s => J ρ s
  | .bk, ρ, s => Q .nx ρ s
  | .rt r, ρ, s => Q (.rt r) ρ s
def getC : Ev → Nat → Option Cl
  | [], _ => none
  | c :: _, 0 => c
  | _ :: ρ, n + 1 => getC ρ n
/-- the end of a def -/
def endK (Q : R → Sto → Prop) : Out → Ev → Sto → Prop
  | .rt r, _, s => Q r s
  | .nx, _, s => Q (.d .none) s
  | _, _, _ => False
def boolK (r : R) : Option Bool := match r with | .d (.bool k) => some k | _ => none
def retK (r : R) : Option R := match r with | .d x => some (.d x) | .f x => some (.f x) | _ => none
def intK (r : R) : Option Int := match r with | .d (.int k) => some k | _ => none
def retVK (c : Cl) : Option R := match c with | .d x => some (.d x) | .o x => some (.f x) | _ => none
def ownK (c : Cl) : Option (List PyData) := match c with | .o x => some x | _ => none
@[simp] theorem ex2 {α β : Type} {z : α} {s : β} {K : α → β → Prop} : (∃ r s', (z = r ∧ s = s') ∧ K r s') ↔ K z s := ⟨fun ⟨_, _, ⟨rfl, rfl⟩, k⟩ => k, fun k => ⟨_, _, ⟨rfl, rfl⟩, k⟩⟩
@[simp] theorem ex2' {α β : Type} {z : α} {s : β} {K : α → β → Prop} : (∃ r s', (r = z ∧ s = s') ∧ K r s') ↔ K z s := ⟨fun ⟨_, _, ⟨rfl, rfl⟩, k⟩ => k, fun k => ⟨_, _, ⟨rfl, rfl⟩, k⟩⟩
@[simp] theorem ex3 {α β γ : Type} {z : α} {s : β} {t : γ} {K : α → β → γ → Prop} : (∃ r s' t', (z = r ∧ s = s' ∧ t = t') ∧ K r s' t') ↔ K z s t := ⟨fun ⟨_, _, _, ⟨rfl, rfl, rfl⟩, k⟩ => k, fun k => ⟨_, _, _, ⟨rfl, rfl, rfl⟩, k⟩⟩
@[simp] theorem ex3' {α β γ : Type} {z : α} {s : β} {t : γ} {K : α → β → γ → Prop} : (∃ r s' t', (r = z ∧ s = s' ∧ t = t') ∧ K r s' t') ↔ K z s t := ⟨fun ⟨_, _, _, ⟨rfl, rfl, rfl⟩, k⟩ => k, fun k => ⟨_, _, _, ⟨rfl, rfl, rfl⟩, k⟩⟩
section rules
variable {α : Type} {ρ : Ev} {s : Sto} {i j : Nat} {a b : Mx} {ta tb : Mt} {as : Ma} {ma mb : Ms} {mo mo' : Mo} {it : Mi} {d : PyData}
variable {Q : R → Sto → Prop} {QT : Bool → Sto → Prop} {QA : List R → Sto → Prop} {QI : List PyData → Sto → Prop} {QS : Out → Ev → Sto → Prop} {QN : Option Int → Sto → Prop}
@[simp] theorem WO_some {z : α} {Q : α → Prop} : WO (some z) Q = Q z := by simp [WO]
@[simp] theorem WO_none {Q : α → Prop} : WO none Q = False := by simp [WO]
@[simp] theorem WO_ite {c : Prop} [Decidable c] {x : Option α} {Q : α → Prop} : WO (if c then x else none) Q = (c ∧ WO x Q) := by
  by_cases h : c <;> simp [h]
@[simp] theorem IfK_true {A B : Prop} : IfK true A B = A := by simp [IfK]
@[simp] theorem IfK_false {A B : Prop} : IfK false A B = B := by simp [IfK]
@[simp] theorem seqK_nx : seqK mb QS .nx ρ s = WS mb ρ s QS := rfl
@[simp] theorem seqK_bk : seqK mb QS .bk ρ s = QS .bk ρ s := rfl
@[simp] theorem seqK_ct : seqK mb QS .ct ρ s = QS .ct ρ s := rfl
@[simp] theorem seqK_rt {r : R} : seqK mb QS (.rt r) ρ s = QS (.rt r) ρ s := rfl
@[simp] theorem loopK_nx {J : Ev → Sto → Prop} : loopK J QS .nx ρ s = J ρ s := rfl
@[simp] theorem loopK_ct {J : Ev → Sto → Prop} : loopK J QS .ct ρ s = J ρ s := rfl
@[simp] theorem loopK_bk {J : Ev → Sto → Prop} : loopK J QS .bk ρ s = QS .nx ρ s := rfl
@[simp] theorem loopK_rt {J : Ev → Sto → Prop} {r : R} : loopK J QS (.rt r) ρ s = QS (.rt r) ρ s := rfl
@[simp] theorem endK_rt {r : R} : endK Q (.rt r) ρ s = Q r s := rfl
@[simp] theorem endK_nx : endK Q .nx ρ s = Q (.d .none) s := rfl
@[simp] theorem getC_0 {c : Option Cl} : getC (c :: ρ) 0 = c := rfl
@[simp] theorem getC_s {c : Option Cl} {n : Nat} : getC (c :: ρ) (n + 1) = getC ρ n := rfl
@[simp] theorem boolK_b {k : Bool} : boolK (.d (.bool k)) = some k := rfl
@[simp] theorem retK_d : retK (.d d) = some (.d d) := rfl
@[simp] theorem retK_f {xs : List PyData} : retK (.f xs) = some (.f xs) := rfl
@[simp] theorem intK_i {k : Int} : intK (.d (.int k)) = some k := rfl
@[simp] theorem retVK_d : retVK (.d d) = some (.d d) := rfl
@[simp] theorem retVK_o {xs : List PyData} : retVK (.o xs) = some (.f xs) := rfl
@[simp] theorem ownK_o {xs : List PyData} : ownK (.o xs) = some xs := rfl
theorem getC_eq : ∀ (ρ : Ev) (i : Nat), getC ρ i = (ρ[i]?).join
  | [], _ => rfl
  | c :: ρ, 0 => by cases c <;> rfl
  | c :: ρ, n + 1 => by rw [getC_s, List.getElem?_cons_succ, getC_eq ρ n]
theorem getC_of {c : Cl} (h : ρ[i]? = some (some c)) : getC ρ i = some c := by rw [getC_eq, h]; rfl
theorem of_getC {c : Cl} (h : getC ρ i = some c) : ρ[i]? = some (some c) := by
  rw [getC_eq] at h
  cases q : ρ[i]? with
  | none => rw [q] at h; cases h
  | some x => rw [q] at h; exact congrArg some h
@[simp ↓] theorem wx_m1 {f : R → Option R} : WX (m1 f a) ρ s Q = WX a ρ s fun x s1 => WO (f x) fun z => Q z s1 := by
  apply propext
  unfold WX WO
  rw [ev_m1]
  rcases a ρ s with _ | ⟨x, s1⟩
  · simp
  · simp only [Option.some.injEq, Prod.mk.injEq]
    constructor
    · rintro ⟨r, s', e, q⟩
      cases h : f x with
      | none => simp [ret, h] at e
      | some z =>
        simp [ret, h] at e
        obtain ⟨rfl, rfl⟩ := e
        exact ⟨x, s1, ⟨rfl, rfl⟩, z, h, q⟩
    · rintro ⟨_, _, ⟨rfl, rfl⟩, z, h, q⟩
      exact ⟨z, s1, by simp [ret, h], q⟩
theorem wbnd {β γ : Type} {m : Ev → Sto → Option (β × Sto)} {f : β → Ev → Sto → Option (γ × Sto)} {K : γ → Sto → Prop} : (∃ r s', bnd m f ρ s = some (r, s') ∧ K r s') = ∃ x s1, m ρ s = some (x, s1) ∧ ∃ r s', f x ρ s1 = some (r, s') ∧ K r s' := by
  apply propext
  rw [ev_bnd]
  rcases m ρ s with _ | ⟨x, s1⟩
  · simp
  · simp
theorem wret {x : Option α} {K : α → Sto → Prop} : (∃ r s', ret x s = some (r, s') ∧ K r s') = WO x fun z => K z s := by
  apply propext
  unfold WO
  cases x with
  | none => simp [ret]
  | some z => simp [ret]
@[simp ↓] theorem wx_m2 {f : R → R → Option R} : WX (m2 f a b) ρ s Q = WX a ρ s fun x s1 => WX b ρ s1 fun y s2 => WO (f x y) fun z => Q z s2 := by
  unfold WX m2
  simp only [wbnd, wret]
@[simp ↓] theorem wx_mA {f : List R → Option R} : WX (mA f as) ρ s Q = WA as ρ s fun x s1 => WO (f x) fun z => Q z s1 := by
  unfold WX WA mA
  simp only [wbnd, wret]
@[simp ↓] theorem wa_nil : WA maNil ρ s QA = QA [] s := by
  unfold WA maNil
  simp
@[simp ↓] theorem wa_cons : WA (maCons a as) ρ s QA = WX a ρ s fun x s1 => WA as ρ s1 fun xs s2 => QA (x :: xs) s2 := by
  unfold WA WX maCons
  simp only [wbnd]
  simp
@[simp ↓] theorem wx_var : WX (mVar i) ρ s Q = WO (getC ρ i) fun c => Q (rdCl c) s := by
  apply propext
  unfold WX WO
  rw [ev_mVar]
  constructor
  · rintro ⟨r, s', e, q⟩
    split at e
    · rename_i c hc
      cases e
      exact ⟨c, getC_of hc, q⟩
    · cases e
  · rintro ⟨c, hc, q⟩
    exact ⟨rdCl c, s, by rw [of_getC hc], q⟩
@[simp ↓] theorem wx_kon : WX (mKon d) ρ s Q = Q (.d d) s := by
  unfold WX
  simp
@[simp ↓] theorem wx_ix : WX (mIx a b) ρ s Q = WX a ρ s fun x s1 => WX b ρ s1 fun y s2 => WO (fIx s2 x y) fun z => Q z s2 := by
  apply propext
  unfold WX WO
  rw [ev_mIx]
  rcases a ρ s with _ | ⟨x, s1⟩
  · simp
  · dsimp only
    rcases hb : b ρ s1 with _ | ⟨y, s2⟩
    · simp [hb]
    · dsimp only
      rcases hf : fIx s2 x y with _ | z
      · simp [hb, hf]
      · simp [hb, hf]
@[simp ↓] theorem wx_call {g : Fx} : WX (mCall g as) ρ s Q = WA as ρ s fun rs s1 => WO (toArgs rs) fun cs => WF g cs s1 Q := by
  apply propext
  unfold WX WA WO WF
  rw [ev_mCall]
  rcases as ρ s with _ | ⟨x, s1⟩
  · simp
  · dsimp only
    rcases h : toArgs x with _ | cs <;> simp [h]
@[simp ↓] theorem wx_callK {g : Fx} {π : List Nat} {n : Nat} : WX (mCallK g π n as) ρ s Q = WA as ρ s fun rs s1 => WO (toArgs rs) fun cs => cs.length = n ∧ WF g (perm (.d .none) π cs) s1 Q := by
  apply propext
  unfold WX WA WO WF mCallK
  rw [ev_bnd]
  rcases as ρ s with _ | ⟨x, s1⟩
  · simp
  · dsimp only
    rcases h0 : toArgs x with _ | cs
    · simp [h0]
    · dsimp only
      by_cases h : cs.length = n <;> simp [h, h0]
def callNK (rs : List R) : Option (Sto × List Cl) := match rs with
  | .f xs :: r => match stoOf xs, onlyD r with
    | some s0, some cs => some (s0, cs)
    | _, _ => none
  | _ => none
@[simp ↓] theorem wx_callN {g : Fx} : WX (mCallN g as) ρ s Q = WA as ρ s fun rs s1 => WO (callNK rs) fun p => WF g (.s :: p.2) p.1 fun r _ => WO (retK r) fun r' => Q r' s1 := by
  apply propext
  unfold WX WA WO WF mCallN callNK
  rw [ev_bnd]
  rcases as ρ s with _ | ⟨x, s1⟩
  · simp
  · dsimp only
    cases x with
    | nil => simp
    | cons r rs =>
      cases r with
      | f xs =>
        dsimp only
        rcases h0 : stoOf xs with _ | s0
        · simp [h0]
        · rcases h1 : onlyD rs with _ | cs
          · simp [h0, h1]
          · dsimp only
            rcases hg : g (.s :: cs) s0 with _ | ⟨z, s2⟩
            · simp [hg, h0, h1]
            · cases z <;> simp [hg, h0, h1, retK]
      | _ => simp
@[simp ↓] theorem wt_bT : WT (bT a) ρ s QT = WX a ρ s fun r s1 => WO (boolK r) fun k => QT k s1 := by
  apply propext
  unfold WT WX WO
  rw [ev_bT]
  rcases a ρ s with _ | ⟨x, s1⟩
  · simp
  · cases x with
    | d z =>
      cases z with
      | bool k => cases k <;> simp [boolK]
      | _ => simp [boolK]
    | _ => simp [boolK]
@[simp ↓] theorem wt_and : WT (tAnd2 ta tb) ρ s QT = WT ta ρ s fun k s1 => IfK k (WT tb ρ s1 QT) (QT false s1) := by
  apply propext
  unfold WT
  rw [ev_tAnd2]
  rcases ta ρ s with _ | ⟨_ | _, s1⟩ <;> simp
@[simp ↓] theorem wt_or : WT (tOr2 ta tb) ρ s QT = WT ta ρ s fun k s1 => IfK k (QT true s1) (WT tb ρ s1 QT) := by
  apply propext
  unfold WT
  rw [ev_tOr2]
  rcases ta ρ s with _ | ⟨_ | _, s1⟩ <;> simp
@[simp ↓] theorem wt_not : WT (tNot2 ta) ρ s QT = WT ta ρ s fun k s1 => QT (!k) s1 := by
  apply propext
  unfold WT
  rw [ev_tNot2]
  rcases ta ρ s with _ | ⟨_ | _, s1⟩ <;> simp
@[simp ↓] theorem wt_yes : WT mYes ρ s QT = QT true s := by
  unfold WT
  simp
@[simp ↓] theorem wx_if : WX (mIf ta a b) ρ s Q = WT ta ρ s fun k s1 => IfK k (WX a ρ s1 Q) (WX b ρ s1 Q) := by
  apply propext
  unfold WX WT
  rw [ev_mIf]
  rcases ta ρ s with _ | ⟨_ | _, s1⟩ <;> simp
@[simp ↓] theorem wx_and : WX (mAnd a b) ρ s Q = WX a ρ s fun r s1 => WO (boolK r) fun k => IfK k (WX b ρ s1 Q) (Q (.d (.bool false)) s1) := by
  apply propext
  unfold WX WO
  rw [ev_mAnd]
  rcases a ρ s with _ | ⟨x, s1⟩
  · simp
  · cases x with
    | d z =>
      cases z with
      | bool k => cases k <;> simp [boolK]
      | _ => simp [boolK]
    | _ => simp [boolK]
@[simp ↓] theorem wx_or : WX (mOr a b) ρ s Q = WX a ρ s fun r s1 => WO (boolK r) fun k => IfK k (Q (.d (.bool true)) s1) (WX b ρ s1 Q) := by
  apply propext
  unfold WX WO
  rw [ev_mOr]
  rcases a ρ s with _ | ⟨x, s1⟩
  · simp
  · cases x with
    | d z =>
      cases z with
      | bool k => cases k <;> simp [boolK]
      | _ => simp [boolK]
    | _ => simp [boolK]
@[simp ↓] theorem wn_none : WN moNone ρ s QN = QN none s := by
  unfold WN moNone
  simp
@[simp ↓] theorem wn_some : WN (moSome a) ρ s QN = WX a ρ s fun r s1 => WO (intK r) fun k => QN (some k) s1 := by
  unfold WN WX moSome
  simp only [wbnd, wret]
  apply propext
  constructor
  · rintro ⟨x, s1, e, h⟩
    refine ⟨x, s1, e, ?_⟩
    cases x with
    | d z => cases z <;> simp_all [intK]
    | _ => simp_all [intK]
  · rintro ⟨x, s1, e, h⟩
    refine ⟨x, s1, e, ?_⟩
    cases x with
    | d z => cases z <;> simp_all [intK]
    | _ => simp_all [intK]
@[simp ↓] theorem wx_sl : WX (mSl a mo mo') ρ s Q = WX a ρ s fun x s1 => WN mo ρ s1 fun l s2 => WN mo' ρ s2 fun h s3 => WO (fSl x l h) fun z => Q z s3 := by
  unfold WX WN mSl
  simp only [wbnd, wret]
@[simp ↓] theorem wx_chain {g1 g2 : Int → Int → Option PyData} {c : Mx} : WX (mChain g1 g2 a b c) ρ s Q = WX a ρ s fun x s1 => WX b ρ s1 fun y s2 => WO (fI g1 x y) fun z => WO (boolK z) fun k => IfK k (WX c ρ s2 fun w s3 => WO (fI g2 y w) fun z => Q z s3) (Q (.d (.bool false)) s2) := by
  unfold WX mChain
  simp only [wbnd, wret]
  apply propext
  unfold WO
  constructor
  · rintro ⟨x, s1, e1, y, s2, e2, z, e3, r, s', e4, q⟩
    refine ⟨x, s1, e1, y, s2, e2, z, e3, ?_⟩
    cases z with
    | d z =>
      cases z with
      | bool k =>
        refine ⟨k, rfl, ?_⟩
        cases k with
        | true =>
          rw [IfK_true]
          dsimp only at e4
          rw [ev_bnd] at e4
          rcases hc : c ρ s2 with _ | ⟨w, s3⟩
          · simp [hc] at e4
          · simp only [hc] at e4
            rcases hg : fI g2 y w with _ | v
            · simp [hg] at e4
            · simp [hg] at e4
              obtain ⟨rfl, rfl⟩ := e4
              exact ⟨w, s3, rfl, v, hg, q⟩
        | false =>
          rw [IfK_false]
          simp at e4
          obtain ⟨rfl, rfl⟩ := e4
          exact q
      | _ => simp at e4
    | _ => simp at e4
  · rintro ⟨x, s1, e1, y, s2, e2, z, e3, k, e4, q⟩
    refine ⟨x, s1, e1, y, s2, e2, z, e3, ?_⟩
    cases z with
    | d z =>
      cases z with
      | bool k' =>
        cases e4
        cases k with
        | true =>
          rw [IfK_true] at q
          obtain ⟨w, s3, e5, v, e6, q⟩ := q
          exact ⟨v, s3, by simp [e5, e6], q⟩
        | false =>
          rw [IfK_false] at q
          exact ⟨_, _, rfl, q⟩
      | _ => cases e4
    | _ => cases e4
@[simp ↓] theorem ws_nil : WS mNil ρ s QS = QS .nx ρ s := by
  unfold WS
  simp
@[simp ↓] theorem ws_seq : WS (mSeq ma mb) ρ s QS = WS ma ρ s (seqK mb QS) := by
  apply propext
  unfold WS
  rw [ev_mSeq]
  rcases ma ρ s with _ | ⟨o, ρ1, s1⟩
  · simp
  · cases o <;> simp [seqK, WS]
@[simp ↓] theorem ws_if : WS (mIfS ta ma mb) ρ s QS = WT ta ρ s fun k s1 => IfK k (WS ma ρ s1 QS) (WS mb ρ s1 QS) := by
  apply propext
  unfold WS WT
  rw [ev_mIfS]
  rcases ta ρ s with _ | ⟨_ | _, s1⟩ <;> simp
@[simp ↓] theorem ws_ret : WS (mRet a) ρ s QS = WX a ρ s fun r s1 => WO (retK r) fun r' => QS (.rt r') ρ s1 := by
  apply propext
  unfold WS WX WO
  rw [ev_mRet]
  rcases a ρ s with _ | ⟨x, s1⟩
  · simp
  · cases x <;> simp [retK]
@[simp ↓] theorem ws_retV : WS (mRetV i) ρ s QS = WO (getC ρ i) fun c => WO (retVK c) fun r => QS (.rt r) ρ s := by
  apply propext
  unfold WS WO
  rw [ev_mRetV]
  constructor
  · rintro ⟨o, ρ', s', e, q⟩
    split at e
    · rename_i x hc
      cases e
      exact ⟨_, getC_of hc, _, rfl, q⟩
    · rename_i x hc
      cases e
      exact ⟨_, getC_of hc, _, rfl, q⟩
    · cases e
  · rintro ⟨c, hc, r, hr, q⟩
    have h := of_getC hc
    cases c with
    | d x => cases hr; exact ⟨_, _, _, by simp only [h], q⟩
    | o x => cases hr; exact ⟨_, _, _, by simp only [h], q⟩
    | s => cases hr
    | m _ => cases hr
@[simp ↓] theorem ws_retN : WS mRetN ρ s QS = QS (.rt (.d .none)) ρ s := by
  unfold WS
  simp
@[simp ↓] theorem ws_brk : WS mBrk ρ s QS = QS .bk ρ s := by
  unfold WS mBrk
  simp
@[simp ↓] theorem ws_cnt : WS mCnt ρ s QS = QS .ct ρ s := by
  unfold WS
  simp
@[simp ↓] theorem ws_drop : WS (mDrop a) ρ s QS = WX a ρ s fun _ s1 => QS .nx ρ s1 := by
  apply propext
  unfold WS WX mDrop
  rcases a ρ s with _ | ⟨x, s1⟩ <;> simp
@[simp ↓] theorem ws_set : WS (mSet i a) ρ s QS = WX a ρ s fun r s1 => WO ((toCl r).map fun c => ρ.set i (some c)) fun ρ1 => QS .nx ρ1 s1 := by
  apply propext
  unfold WS WX WO
  rw [ev_mSet]
  rcases a ρ s with _ | ⟨x, s1⟩
  · simp
  · dsimp only
    rcases h0 : toCl x with _ | c <;> simp [h0]
@[simp ↓] theorem ws_frz {is : List Nat} : WS (mFrz is ma) ρ s QS = WO (some (frzs ρ is)) fun ρ1 => WS ma ρ1 s QS := by
  rw [WO_some]
  rfl
@[simp ↓] theorem ws_app : WS (mApp i a) ρ s QS = WX a ρ s fun r s1 => WO (toD r) fun x => WO ((getC ρ i).bind ownK) fun xs => xs.length < sizeLine ∧ WO (some (ρ.set i (some (.o (xs ++ [x]))))) fun ρ1 => QS .nx ρ1 s1 := by
  apply propext
  unfold WS WX WO mApp
  rcases a ρ s with _ | ⟨r, s1⟩
  · simp
  · dsimp only
    rcases hx : toD r with _ | x
    · simp [hx]
    · constructor
      · rintro ⟨o, ρ', s', e, q⟩
        split at e
        · rename_i y xs e1 e2
          cases e1
          split at e
          · rename_i hl
            cases e
            exact ⟨r, s1, rfl, x, hx, xs, by rw [getC_of e2]; rfl, hl, _, rfl, q⟩
          · cases e
        · cases e
      · rintro ⟨r', s1', e, x', hx', xs, hg, hl, _, e5, q⟩
        cases e
        cases e5
        rw [hx] at hx'
        cases hx'
        cases hc : getC ρ i with
        | none => rw [hc] at hg; cases hg
        | some c =>
          rw [hc] at hg
          cases c with
          | o ys =>
            cases hg
            exact ⟨_, _, _, by simp [of_getC hc, hl], q⟩
          | _ => cases hg
def putL (xs : List PyData) (k : Int) (r : R) : Option (List PyData) := match toD r, ixN xs.length k with
  | some x, some j => some (xs.set j x)
  | _, _ => none
def putS (s : Sto) (k : Int) (r : R) : Option Sto := match r, ixN s.length k with
  | .d (.int v), some j => some (s.set j v)
  | _, _ => none
def putK (ρ : Ev) (i : Nat) (c : Cl) (k : Int) (r : R) (s : Sto) : Option (Ev × Sto) := match c with
  | .o xs => (putL xs k r).map fun ys => (ρ.set i (some (.o ys)), s)
  | .s => (putS s k r).map fun s' => (ρ, s')
  | _ => none
@[simp] theorem putK_o {xs : List PyData} {k : Int} {r : R} : putK ρ i (.o xs) k r s = (putL xs k r).map fun ys => (ρ.set i (some (.o ys)), s) := rfl
@[simp] theorem putK_s {k : Int} {r : R} : putK ρ i .s k r s = (putS s k r).map fun s' => (ρ, s') := rfl
@[simp ↓] theorem ws_put {ix : Mx} : WS (mPut i ix a) ρ s QS = WX a ρ s fun r s1 => WX ix ρ s1 fun z s2 => WO (intK z) fun k => WO (getC ρ i) fun c => WO (putK ρ i c k r s2) fun p => QS .nx p.1 p.2 := by
  apply propext
  unfold WS WX WO mPut
  rcases a ρ s with _ | ⟨r, s1⟩
  · simp
  · dsimp only
    rcases hi : ix ρ s1 with _ | ⟨z, s2⟩
    · simp [hi]
    · constructor
      · rintro ⟨o, ρ', s', e, q⟩
        refine ⟨r, s1, rfl, z, s2, hi, ?_⟩
        split at e
        · rename_i k s3 e1
          cases e1
          refine ⟨k, rfl, ?_⟩
          split at e
          · rename_i xs e2
            split at e
            · rename_i x j e3 e4
              cases e
              exact ⟨_, getC_of e2, (_, _), by rw [putK_o]; unfold putL; rw [e3, e4]; rfl, q⟩
            · cases e
          · rename_i e2
            split at e
            · rename_i v j e4
              cases e
              exact ⟨_, getC_of e2, (_, _), by rw [putK_s]; unfold putS; rw [e4]; rfl, q⟩
            · cases e
          · cases e
        · cases e
      · rintro ⟨r', s1', e, z', s2', e2, k, hk, c, hc, p, hp, q⟩
        cases e
        rw [hi] at e2
        cases e2
        have hz : z = .d (.int k) := by
          cases z with
          | d z =>
            cases z with
            | int i => cases hk; rfl
            | _ => cases hk
          | _ => cases hk
        subst hz
        have g := of_getC hc
        cases c with
        | d _ => cases hp
        | o xs =>
          rw [putK_o] at hp
          unfold putL at hp
          split at hp
          · rename_i x j e3 e4
            cases hp
            exact ⟨_, _, _, by simp only [g, e3, e4], q⟩
          · cases hp
        | s =>
          rw [putK_s] at hp
          unfold putS at hp
          split at hp
          · rename_i v j e4
            cases hp
            exact ⟨_, _, _, by simp only [g, e4], q⟩
          · cases hp
        | m _ => cases hp
@[simp ↓] theorem ws_asg {g : Gx} : WS (mAsg g a) ρ s QS = WX a ρ s fun r s1 => WO (toD r) fun x => WO (g x ρ) fun ρ1 => QS .nx ρ1 s1 := by
  apply propext
  unfold WS WX WO mAsg
  rcases a ρ s with _ | ⟨r, s1⟩
  · simp
  · dsimp only
    rcases hx : toD r with _ | x
    · simp [hx]
    · dsimp only
      rcases hg : g x ρ with _ | ρ1 <;> simp [hx, hg]
def parK (ρ : Ev) (i j : Nat) (rs : List R) : Option Ev := match rs with
  | [r, q] => match toCl r, toCl q with
    | some c, some d => match c, d with
      | .o _, .o _ => none
      | c, d => some ((ρ.set i (some c)).set j (some d))
    | _, _ => none
  | _ => none
theorem mPar_eq {x : List R} {s1 : Sto} (e : as ρ s = some (x, s1)) : mPar i j as ρ s = (parK ρ i j x).map fun ρ1 => (.nx, ρ1, s1) := by
  unfold mPar parK
  rw [e]
  split
  · rename_i r q s2 e2
    cases e2
    dsimp only
    rcases toCl r with _ | c
    · rfl
    · rcases toCl q with _ | d
      · rfl
      · cases c <;> cases d <;> rfl
  · rename_i h
    split
    · rename_i r q
      exact absurd rfl (h r q s1)
    · rfl
@[simp ↓] theorem ws_par : WS (mPar i j as) ρ s QS = WA as ρ s fun rs s1 => WO (parK ρ i j rs) fun ρ1 => QS .nx ρ1 s1 := by
  apply propext
  unfold WS WA WO
  constructor
  · rintro ⟨o, ρ', s', e, q⟩
    rcases h : as ρ s with _ | ⟨x, s1⟩
    · unfold mPar at e; rw [h] at e; cases e
    · rw [mPar_eq h] at e
      obtain ⟨ρ1, e1, e2⟩ := Option.map_eq_some_iff.mp e
      cases e2
      exact ⟨x, _, rfl, _, e1, q⟩
  · rintro ⟨x, s1, h, ρ1, e1, q⟩
    exact ⟨_, _, _, by rw [mPar_eq h, e1]; rfl, q⟩
@[simp] theorem parK_dd {x y : PyData} : parK ρ i j [.d x, .d y] = some ((ρ.set i (some (.d x))).set j (some (.d y))) := rfl
@[simp] theorem parK_df {x : PyData} {y : List PyData} : parK ρ i j [.d x, .f y] = some ((ρ.set i (some (.d x))).set j (some (.o y))) := rfl
@[simp] theorem parK_fd {x : List PyData} {y : PyData} : parK ρ i j [.f x, .d y] = some ((ρ.set i (some (.o x))).set j (some (.d y))) := rfl
def par3K (ρ : Ev) (i j l : Nat) (rs : List R) : Option Ev := match rs with
  | [r, q, u] => match toCl r, toCl q, toCl u with
    | some (.d c), some (.d d), some f => some (((ρ.set i (some (.d c))).set j (some (.d d))).set l (some f))
    | some (.d c), some (.o d), some (.d f) => some (((ρ.set i (some (.d c))).set j (some (.o d))).set l (some (.d f)))
    | _, _, _ => none
  | _ => none
@[simp] theorem par3K_ddd {l : Nat} {x y z : PyData} : par3K ρ i j l [.d x, .d y, .d z] = some (((ρ.set i (some (.d x))).set j (some (.d y))).set l (some (.d z))) := rfl
@[simp] theorem par3K_ddf {l : Nat} {x y : PyData} {z : List PyData} : par3K ρ i j l [.d x, .d y, .f z] = some (((ρ.set i (some (.d x))).set j (some (.d y))).set l (some (.o z))) := rfl
@[simp] theorem par3K_dfd {l : Nat} {x z : PyData} {y : List PyData} : par3K ρ i j l [.d x, .f y, .d z] = some (((ρ.set i (some (.d x))).set j (some (.o y))).set l (some (.d z))) := rfl
theorem mPar3_eq {l : Nat} {x : List R} {s1 : Sto} (e : as ρ s = some (x, s1)) : mPar3 i j l as ρ s = (par3K ρ i j l x).map fun ρ1 => (.nx, ρ1, s1) := by
  unfold mPar3 par3K
  rw [e]
  split
  · rename_i r q u s2 e2
    cases e2
    dsimp only
    rcases toCl r with _ | c
    · rfl
    · rcases toCl q with _ | d
      · cases c <;> rfl
      · rcases toCl u with _ | f
        · cases c <;> cases d <;> rfl
        · cases c <;> cases d <;> cases f <;> rfl
  · rename_i h
    split
    · rename_i r q u
      exact absurd rfl (h r q u s1)
    · rfl
@[simp ↓] theorem ws_par3 {l : Nat} : WS (mPar3 i j l as) ρ s QS = WA as ρ s fun rs s1 => WO (par3K ρ i j l rs) fun ρ1 => QS .nx ρ1 s1 := by
  apply propext
  unfold WS WA WO
  constructor
  · rintro ⟨o, ρ', s', e, q⟩
    rcases h : as ρ s with _ | ⟨x, s1⟩
    · unfold mPar3 at e; rw [h] at e; cases e
    · rw [mPar3_eq h] at e
      obtain ⟨ρ1, e1, e2⟩ := Option.map_eq_some_iff.mp e
      cases e2
      exact ⟨x, _, rfl, _, e1, q⟩
  · rintro ⟨x, s1, h, ρ1, e1, q⟩
    exact ⟨_, _, _, by rw [mPar3_eq h, e1]; rfl, q⟩
@[simp ↓] theorem wi_seq : WI (mSeqI a) ρ s QI = WX a ρ s fun x s1 => WO (itemsOf x) fun xs => QI xs s1 := by
  unfold WI WX mSeqI
  simp only [wbnd, wret]
@[simp ↓] theorem wi_arg {f : List R → Option (List PyData)} : WI (mArgI f as) ρ s QI = WA as ρ s fun x s1 => WO (f x) fun xs => QI xs s1 := by
  unfold WI WA mArgI
  simp only [wbnd, wret]
@[simp ↓] theorem ws_for {g : Gx} : WS (mFor it g ma) ρ s QS = WI it ρ s fun xs s1 => WFor g ma xs ρ s1 QS := by
  apply propext
  unfold WFor WS WI
  rw [ev_mFor]
  rcases it ρ s with _ | ⟨xs, s1⟩ <;> simp
@[simp ↓] theorem ws_wh : WS (mWhile ta ma) ρ s QS = WWh ta ma ρ s QS := rfl
@[simp ↓] theorem wx_lc {vs : List Nat} {g : Gx} : WX (mLc it vs g ta a) ρ s Q = WI it ρ s fun xs s1 => WLc vs g ta a xs ρ s1 fun ys s2 => ys.length ≤ sizeLine ∧ Q (.f ys) s2 := by
  apply propext
  unfold WX WLc WI mLc
  rcases it ρ s with _ | ⟨xs, s1⟩
  · simp
  · dsimp only
    rcases h : lcRun vs g ta a xs ρ s1 with _ | ⟨ys, s2⟩
    · simp [h]
    · dsimp only
      by_cases hl : ys.length ≤ sizeLine <;> simp [hl, h]
@[simp ↓] theorem wx_lc2 {vs vs1 : List Nat} {g g1 : Gx} {it1 : Mi} : WX (mLc2 it vs g ta it1 vs1 g1 tb a) ρ s Q = WI it ρ s fun xs s1 => WLc2 vs vs1 g ta it1 g1 tb a xs ρ s1 fun ys s2 => ys.length ≤ sizeLine ∧ Q (.f ys) s2 := by
  apply propext
  unfold WX WLc2 WI mLc2
  rcases it ρ s with _ | ⟨xs, s1⟩
  · simp
  · dsimp only
    rcases h : lcRun2 vs vs1 g ta it1 g1 tb a xs ρ s1 with _ | ⟨ys, s2⟩
    · simp [h]
    · dsimp only
      by_cases hl : ys.length ≤ sizeLine <;> simp [hl, h]
end rules
section use
variable {ρ : Ev} {s : Sto}
theorem WF.use {g : Fx} {cs : List Cl} {P Q : R → Sto → Prop} (h : WF g cs s P) (k : ∀ r s', P r s' → Q r s') : WF g cs s Q := by
  obtain ⟨r, s', e, p⟩ := h
  exact ⟨r, s', e, k r s' p⟩
theorem WF.of {g : Fx} {cs : List Cl} {Q : R → Sto → Prop} {r : R} {s' : Sto} (h : g cs s = some (r, s')) (k : Q r s') : WF g cs s Q := ⟨r, s', h, k⟩
/-- a def, from its body -/
theorem WF.body {n l : Nat} {m : Ms} {cs : List Cl} {Q : R → Sto → Prop} (hn : cs.length = n) (h : WS m (cs.map some ++ List.replicate (l - cs.length) none) s (endK Q)) : WF (run' n l m) cs s Q := by
  obtain ⟨o, ρ', s', e, q⟩ := h
  unfold WF run' run
  rw [if_pos hn, e]
  cases o with
  | nx => exact ⟨_, _, rfl, q⟩
  | rt r => exact ⟨_, _, rfl, q⟩
  | bk => cases q
  | ct => cases q
theorem WF.eq {g : Fx} {cs : List Cl} {r : R} {s' : Sto} (h : WF g cs s fun r1 s1 => r1 = r ∧ s1 = s') : g cs s = some (r, s') := by
  obtain ⟨r1, s1, e, rfl, rfl⟩ := h
  exact e
theorem WS.mono {m : Ms} {P Q : Out → Ev → Sto → Prop} (h : WS m ρ s P) (k : ∀ o ρ' s', P o ρ' s' → Q o ρ' s') : WS m ρ s Q := by
  obtain ⟨o, ρ', s', e, p⟩ := h
  exact ⟨o, ρ', s', e, k _ _ _ p⟩
theorem WFor_nil {g : Gx} {body : Ms} {Q : Out → Ev → Sto → Prop} (h : Q .nx ρ s) : WFor g body [] ρ s Q := ⟨.nx, ρ, s, rfl, h⟩
theorem WFor_cons {g : Gx} {body : Ms} {x : PyData} {xs : List PyData} {Q : Out → Ev → Sto → Prop} (h : WO (g x ρ) fun ρ1 => WS body ρ1 s (loopK (fun ρ2 s2 => WFor g body xs ρ2 s2 Q) Q)) : WFor g body (x :: xs) ρ s Q := by
  obtain ⟨ρ1, e1, o, ρ2, s2, e2, q⟩ := h
  cases o with
  | nx =>
    obtain ⟨o, ρ', s', e3, q⟩ := q
    exact ⟨o, ρ', s', by unfold forRun; simp [e1, e2, e3], q⟩
  | ct =>
    obtain ⟨o, ρ', s', e3, q⟩ := q
    exact ⟨o, ρ', s', by unfold forRun; simp [e1, e2, e3], q⟩
  | bk => exact ⟨.nx, ρ2, s2, by unfold forRun; simp [e1, e2], q⟩
  | rt r => exact ⟨.rt r, ρ2, s2, by unfold forRun; simp [e1, e2], q⟩
/-- a for by its invariant -/
theorem WFor_inv {α : Type} {g : Gx} {body : Ms} {Q : Out → Ev → Sto → Prop} (enc : α → PyData) (l : List α) (I : Nat → Ev → Sto → Prop) (h0 : I 0 ρ s)
    (step : ∀ (i : Nat) (x : α) ρ s, l[i]? = some x → I i ρ s → WO (g (enc x) ρ) fun ρ1 => WS body ρ1 s (loopK (I (i + 1)) Q)) (fin : ∀ ρ s, I l.length ρ s → Q .nx ρ s) : WFor g body (l.map enc) ρ s Q := by
  have key : ∀ (m : List α) (i : Nat) (ρ : Ev) (s : Sto), i + m.length = l.length → (∀ j, m[j]? = l[i + j]?) → I i ρ s → WFor g body (m.map enc) ρ s Q := by
    intro m
    induction m with
    | nil =>
      intro i ρ s hl _ h
      refine WFor_nil (fin _ _ ?_)
      rw [List.length_nil, Nat.add_zero] at hl
      rwa [← hl]
    | cons x m ih =>
      intro i ρ s hl hj h
      have hx : l[i]? = some x := by
        have := hj 0
        simpa using this.symm
      refine WFor_cons ?_
      obtain ⟨ρ1, e1, o, ρ2, s2, e2, q⟩ := step i x ρ s hx h
      refine ⟨ρ1, e1, o, ρ2, s2, e2, ?_⟩
      rw [List.length_cons] at hl
      have next : I (i + 1) ρ2 s2 → WFor g body (m.map enc) ρ2 s2 Q := fun h => ih (i + 1) ρ2 s2 (by omega) (fun j => by
        have := hj (j + 1)
        rw [List.getElem?_cons_succ] at this
        rw [this]
        congr 1
        omega) h
      cases o with
      | nx => exact next q
      | ct => exact next q
      | bk => exact q
      | rt r => exact q
  exact key l 0 ρ s (Nat.zero_add _) (fun j => by rw [Nat.zero_add]) h0
theorem WWh_next {c : Mt} {body : Ms} {Q : Out → Ev → Sto → Prop} (h : WT c ρ s fun k s1 => IfK k (WS body ρ s1 (loopK (fun ρ' s' => WWh c body ρ' s' Q) Q)) (Q .nx ρ s1)) : WWh c body ρ s Q := by
  obtain ⟨k, s1, ec, h⟩ := h
  cases k with
  | false =>
    rw [IfK_false] at h
    exact ⟨.nx, ρ, s1, mWhile_of (n := 1) (by rw [whRun_eq, ec]), h⟩
  | true =>
    rw [IfK_true] at h
    obtain ⟨o, ρ2, s2, eb, h⟩ := h
    cases o with
    | nx =>
      obtain ⟨o, ρ', s', ew, q⟩ := h
      obtain ⟨n, en⟩ := mWhile_some ew
      exact ⟨o, ρ', s', mWhile_of (n := n + 1) (by rw [whRun_eq, ec]; simp only [eb]; exact en), q⟩
    | ct =>
      obtain ⟨o, ρ', s', ew, q⟩ := h
      obtain ⟨n, en⟩ := mWhile_some ew
      exact ⟨o, ρ', s', mWhile_of (n := n + 1) (by rw [whRun_eq, ec]; simp only [eb]; exact en), q⟩
    | bk => exact ⟨.nx, ρ2, s2, mWhile_of (n := 1) (by rw [whRun_eq, ec]; simp only [eb]), h⟩
    | rt r => exact ⟨.rt r, ρ2, s2, mWhile_of (n := 1) (by rw [whRun_eq, ec]; simp only [eb]), h⟩
/-- a while by its invariant and a number that falls -/
theorem WWh_inv {c : Mt} {body : Ms} {Q : Out → Ev → Sto → Prop} (I : Nat → Ev → Sto → Prop) (n : Nat) (h0 : I n ρ s)
    (step : ∀ n ρ s, I n ρ s → WT c ρ s fun k s1 => IfK k (WS body ρ s1 (loopK (fun ρ' s' => ∃ m, m < n ∧ I m ρ' s') Q)) (Q .nx ρ s1)) : WWh c body ρ s Q := by
  induction n using Nat.strongRecOn generalizing ρ s with
  | ind n ih =>
    refine WWh_next ?_
    obtain ⟨k, s1, ec, h⟩ := step n ρ s h0
    refine ⟨k, s1, ec, ?_⟩
    cases k with
    | false => exact h
    | true =>
      rw [IfK_true] at h ⊢
      refine h.mono fun o ρ' s' q => ?_
      cases o with
      | nx => obtain ⟨m, hm, q⟩ := q; exact ih m hm q
      | ct => obtain ⟨m, hm, q⟩ := q; exact ih m hm q
      | bk => exact q
      | rt r => exact q
/-- a comprehension whose elements are alone with their item -/
theorem WLc_opt {α : Type} {vs : List Nat} {g : Gx} {t : Mt} {e : Mx} {Q : List PyData → Sto → Prop} (enc : α → PyData) (f : α → Option PyData) : ∀ (l : List α), (∀ x ∈ l, WO (g (enc x) (wipeE ρ vs)) fun ρ1 => WT t ρ1 s fun k s1 => s1 = s ∧ k = (f x).isSome ∧ IfK k (WX e ρ1 s fun r s2 => s2 = s ∧ toD r = f x) True) →
    Q (l.filterMap f) s → WLc vs g t e (l.map enc) ρ s Q := by
  intro l h q
  refine ⟨_, s, ?_, q⟩
  clear q
  induction l with
  | nil => rfl
  | cons x l ih =>
    have r := ih fun y hy => h y (List.mem_cons_of_mem _ hy)
    obtain ⟨ρ1, e1, k, s1, e2, rfl, hk, q⟩ := h x List.mem_cons_self
    rw [List.map_cons]
    unfold lcRun
    rw [e1]
    dsimp only
    rw [e2]
    cases k with
    | false =>
      dsimp only
      rw [r, List.filterMap_cons]
      cases hf : f x with
      | none => rfl
      | some y => rw [hf] at hk; cases hk
    | true =>
      rw [IfK_true] at q
      obtain ⟨rr, s2, e3, rfl, hd⟩ := q
      dsimp only
      rw [e3]
      dsimp only
      rw [r, List.filterMap_cons]
      cases hf : f x with
      | none => rw [hf] at hk; cases hk
      | some y => rw [hd, hf]
theorem WLc_map {α : Type} {vs : List Nat} {g : Gx} {e : Mx} {Q : List PyData → Sto → Prop} (enc f : α → PyData) (l : List α) (h : ∀ x ∈ l, WO (g (enc x) (wipeE ρ vs)) fun ρ1 => WX e ρ1 s fun r s2 => s2 = s ∧ toD r = some (f x))
    (q : Q (l.map f) s) : WLc vs g mYes e (l.map enc) ρ s Q := by
  refine WLc_opt enc (fun x => some (f x)) l (fun x hx => ?_) (by rw [List.filterMap_eq_map']; exact q)
  obtain ⟨ρ1, e1, r⟩ := h x hx
  exact ⟨ρ1, e1, true, s, rfl, rfl, rfl, by rw [IfK_true]; exact r⟩
end use
end Dh
def gg (a b : Int) : Int := ((Nat.gcd a.natAbs b.natAbs : Nat) : Int)
def QLt (k : Nat) (q : Rat) : Prop := q.num.natAbs < 2 ^ k ∧ q.den < 2 ^ k
theorem divInt_num {t l : Int} (h : 0 < l) : (Rat.divInt t l).num = t / gg t l := by
  rw [Rat.num_divInt]
  unfold gg
  rw [Int.sign_eq_one_of_pos h, Int.one_mul, Int.gcd_comm]
  rfl
theorem divInt_den {t l : Int} (h : 0 < l) : ((Rat.divInt t l).den : Int) = l / gg t l := by
  rw [Rat.den_divInt, if_neg (by omega), Int.gcd_comm]
  unfold gg
  rw [Int.natCast_ediv, Int.natAbs_of_nonneg (by omega)]
  rfl
theorem QLt_divInt {t l : Int} {k : Nat} (h : 0 < l) (h1 : t.natAbs < 2 ^ k) (h2 : l.natAbs < 2 ^ k) : QLt k (Rat.divInt t l) := by
  refine ⟨?_, ?_⟩
  · rw [Rat.num_divInt, Int.sign_eq_one_of_pos h, Int.one_mul, Int.natAbs_ediv_of_dvd (Int.gcd_dvd_right ..)]
    exact Nat.lt_of_le_of_lt (Nat.div_le_self _ _) h1
  · rw [Rat.den_divInt, if_neg (by omega)]
    exact Nat.lt_of_le_of_lt (Nat.div_le_self _ _) h2
theorem QLt.mono {a b : Nat} {q : Rat} (h : QLt a q) (hab : a ≤ b) : QLt b q :=
  ⟨Nat.lt_of_lt_of_le h.1 (Nat.pow_le_pow_right (by decide) hab), Nat.lt_of_lt_of_le h.2 (Nat.pow_le_pow_right (by decide) hab)⟩
theorem add_divInt (p q : Rat) : p + q = Rat.divInt (p.num * q.den + q.num * p.den) ((p.den : Int) * q.den) := by
  rw [Rat.add_def', ← Rat.divInt_ofNat, Int.natCast_mul]
theorem sub_divInt (p q : Rat) : p - q = Rat.divInt (p.num * q.den - q.num * p.den) ((p.den : Int) * q.den) := by
  rw [Rat.sub_def', ← Rat.divInt_ofNat, Int.natCast_mul]
theorem mul_divInt (p q : Rat) : p * q = Rat.divInt (p.num * q.num) ((p.den : Int) * q.den) := by
  rw [Rat.mul_def', ← Rat.divInt_ofNat, Int.natCast_mul]
theorem div_divInt (p q : Rat) : p / q = Rat.divInt (p.num * q.den) ((p.den : Int) * q.num) := by
  rw [Rat.div_def, Rat.inv_def, ← Rat.num_divInt_den p, Rat.divInt_mul_divInt, Rat.num_divInt_den]
theorem den_pos (q : Rat) : (0 : Int) < q.den := by have := q.den_pos; omega
theorem den_mul_pos (p q : Rat) : (0 : Int) < (p.den : Int) * q.den := Int.mul_pos (den_pos p) (den_pos q)
theorem lt_mulB {i j : Int} {a b : Nat} (h1 : i.natAbs < 2 ^ a) (h2 : j.natAbs < 2 ^ b) : (i * j).natAbs < 2 ^ (a + b) := by
  rw [Int.natAbs_mul, Nat.pow_add]
  exact Nat.mul_lt_mul'' h1 h2
theorem lt_sumB {i j : Int} {a : Nat} (h1 : i.natAbs < 2 ^ a) (h2 : j.natAbs < 2 ^ a) : (i + j).natAbs < 2 ^ (a + 1) := by
  have := Int.natAbs_add_le i j
  rw [Nat.pow_succ]
  omega
theorem lt_monoB {i : Int} {a b : Nat} (h1 : i.natAbs < 2 ^ a) (h : a ≤ b) : i.natAbs < 2 ^ b := Nat.lt_of_lt_of_le h1 (Nat.pow_le_pow_right (by decide) h)
theorem QLt.den' {a : Nat} {q : Rat} (h : QLt a q) : (q.den : Int).natAbs < 2 ^ a := by rw [Int.natAbs_natCast]; exact h.2
theorem QLt_add {a b : Nat} {p q : Rat} (hp : QLt a p) (hq : QLt b q) : QLt (a + b + 1) (p + q) := by
  rw [add_divInt]
  refine QLt_divInt (den_mul_pos p q) (lt_sumB (lt_mulB hp.1 hq.den') ?_) (lt_monoB (lt_mulB hp.den' hq.den') (by omega))
  rw [Nat.add_comm a b]
  exact lt_mulB hq.1 hp.den'
theorem QLt_mul {a b : Nat} {p q : Rat} (hp : QLt a p) (hq : QLt b q) : QLt (a + b) (p * q) := by
  rw [mul_divInt]
  exact QLt_divInt (den_mul_pos p q) (lt_mulB hp.1 hq.1) (lt_mulB hp.den' hq.den')
theorem QLt_div {a b : Nat} {p q : Rat} (hp : QLt a p) (hq : QLt b q) : QLt (a + b) (p / q) := by
  rw [Rat.div_def]
  refine QLt_mul hp ⟨?_, ?_⟩
  · rw [Rat.num_inv, Int.natAbs_mul]
    have : q.num.sign.natAbs ≤ 1 := by
      rw [Int.natAbs_sign]; split <;> omega
    exact Nat.lt_of_le_of_lt (Nat.mul_le_mul_right _ this) (by rw [Nat.one_mul]; exact hq.den')
  · rw [Rat.den_inv]
    split
    · have := hq.2
      have := q.den_pos
      omega
    · exact hq.1
namespace El
/-- the sum of the first n -/
def sm : Nat → (Nat → Rat) → Rat
  | 0, _ => 0
  | n + 1, f => sm n f + f n
theorem sm_congr {n : Nat} {f g : Nat → Rat} (h : ∀ i, i < n → f i = g i) : sm n f = sm n g := by
  induction n with
  | zero => rfl
  | succ n ih => rw [sm, sm, ih fun i hi => h i (by omega), h n (by omega)]
theorem sm_zero {n : Nat} {f : Nat → Rat} (h : ∀ i, i < n → f i = 0) : sm n f = 0 := by
  induction n with
  | zero => rfl
  | succ n ih => rw [sm, ih fun i hi => h i (by omega), h n (by omega)]; grind
theorem sm_add {n : Nat} {f g : Nat → Rat} : sm n (fun i => f i + g i) = sm n f + sm n g := by
  induction n with
  | zero => simp [sm]; grind
  | succ n ih => rw [sm, sm, sm, ih]; grind
theorem sm_sub {n : Nat} {f g : Nat → Rat} : sm n (fun i => f i - g i) = sm n f - sm n g := by
  induction n with
  | zero => simp [sm]; grind
  | succ n ih => rw [sm, sm, sm, ih]; grind
theorem sm_mul {n : Nat} {f : Nat → Rat} {c : Rat} : sm n (fun i => c * f i) = c * sm n f := by
  induction n with
  | zero => simp [sm]
  | succ n ih => rw [sm, sm, ih]; grind
theorem sm_mulr {n : Nat} {f : Nat → Rat} {c : Rat} : sm n (fun i => f i * c) = sm n f * c := by
  induction n with
  | zero => simp [sm]
  | succ n ih => rw [sm, sm, ih]; grind
theorem sm_le {n : Nat} {f g : Nat → Rat} (h : ∀ i, i < n → f i ≤ g i) : sm n f ≤ sm n g := by
  induction n with
  | zero => exact Rat.le_refl
  | succ n ih =>
    have a := ih fun i hi => h i (by omega)
    have b := h n (by omega)
    rw [sm, sm]; grind
theorem sm_nonneg {n : Nat} {f : Nat → Rat} (h : ∀ i, i < n → 0 ≤ f i) : 0 ≤ sm n f := by
  have := sm_le (n := n) (f := fun _ => 0) (g := f) h
  rwa [sm_zero fun _ _ => rfl] at this
theorem sm_one {n k : Nat} {f : Nat → Rat} (hk : k < n) (h : ∀ i, i < n → i ≠ k → f i = 0) : sm n f = f k := by
  induction n with
  | zero => omega
  | succ n ih =>
    rw [sm]
    by_cases e : k = n
    · subst e
      rw [sm_zero fun i hi => h i (by omega) (by omega)]; grind
    · rw [ih (by omega) fun i hi => h i (by omega), h n (by omega) (by omega)]; grind
theorem sm_swap {m n : Nat} {f : Nat → Nat → Rat} : sm m (fun i => sm n (fun j => f i j)) = sm n (fun j => sm m (fun i => f i j)) := by
  induction m with
  | zero =>
    symm
    exact sm_zero fun i hi => rfl
  | succ m ih => simp only [sm]; rw [ih, ← sm_add]
/-- the size of a number -/
def ab (q : Rat) : Rat := if q < 0 then -q else q
theorem ab_nonneg (q : Rat) : 0 ≤ ab q := by unfold ab; split <;> grind
theorem ab_zero {q : Rat} (h : ab q = 0) : q = 0 := by unfold ab at h; split at h <;> grind
theorem ab_add (p q : Rat) : ab (p + q) ≤ ab p + ab q := by unfold ab; split <;> split <;> split <;> grind
theorem ab_mul_nonneg {p q : Rat} (h : 0 ≤ p) : ab (p * q) = p * ab q := by
  unfold ab
  by_cases hq : q < 0
  · rw [if_pos hq]
    by_cases hp : p = 0
    · subst hp; simp
    · have : p * q < 0 := by
        have := Rat.mul_pos (a := p) (b := -q) (by grind) (by grind)
        grind
      rw [if_pos this]; grind
  · rw [if_neg hq]
    have := Rat.mul_nonneg h (show 0 ≤ q by grind)
    rw [if_neg (by grind)]
theorem ab_sm {n : Nat} {f : Nat → Rat} : ab (sm n f) ≤ sm n fun i => ab (f i) := by
  induction n with
  | zero => unfold ab sm; grind
  | succ n ih =>
    rw [sm, sm]
    have := ab_add (sm n f) (f n)
    grind
/-- the leading part of so many rows and columns leads no row but 0 to 0 -/
def NS (A : Nat → Nat → Rat) (k : Nat) : Prop := ∀ x : Nat → Rat, (∀ i, i < k → sm k (fun l => A i l * x l) = 0) → ∀ i, i < k → x i = 0
/-- one turn of the elimination -/
def step (k : Nat) (R : Nat → Nat → Rat) : Nat → Nat → Rat := fun i j => if i = k then R k j / R k k else R i j - R i k * (R k j / R k k)
def gj (A : Nat → Nat → Rat) : Nat → Nat → Nat → Rat
  | 0 => A
  | k + 1 => step k (gj A k)
/-- what stands behind k turns, of n rows -/
structure GJ (A R : Nat → Nat → Rat) (n k : Nat) : Prop where
  top : ∀ i j, i < k → sm k (fun l => A i l * R l j) = A i j
  low : ∀ i j, k ≤ i → i < n → R i j = A i j - sm k (fun l => A i l * R l j)
theorem gj_pivot {A R : Nat → Nat → Rat} {n k : Nat} (h : GJ A R n k) (hk : k < n) (ns : NS A (k + 1)) : R k k ≠ 0 := by
  intro z
  have e := ns (fun l => if l = k then 1 else - R l k) (fun i hi => ?_) k (by omega)
  · simp at e
  · rw [sm]
    have e1 : sm k (fun l => A i l * (if l = k then 1 else - R l k)) = - sm k (fun l => A i l * R l k) := by
      rw [show - sm k (fun l => A i l * R l k) = (-1) * sm k (fun l => A i l * R l k) by grind, ← sm_mul]
      refine sm_congr fun l hl => ?_
      rw [if_neg (by omega)]; grind
    rw [e1, if_pos rfl]
    by_cases hi' : i < k
    · rw [h.top i k hi']; grind
    · have : i = k := by omega
      subst this
      have := h.low i i (by omega) hk
      rw [z] at this
      grind
theorem gj_step {A R : Nat → Nat → Rat} {n k : Nat} (h : GJ A R n k) (hk : k < n) (p : R k k ≠ 0) : GJ A (step k R) n (k + 1) := by
  have col : ∀ i j, sm k (fun l => A i l * step k R l j) = sm k (fun l => A i l * R l j) - sm k (fun l => A i l * R l k) * (R k j / R k k) := fun i j => by
    rw [← sm_mulr, ← sm_sub]
    refine sm_congr fun l hl => ?_
    unfold step
    rw [if_neg (by omega)]; grind
  have self : ∀ j, step k R k j = R k j / R k k := fun j => by unfold step; rw [if_pos rfl]
  constructor
  · intro i j hi
    rw [sm, col, self]
    by_cases hi' : i < k
    · rw [h.top i j hi', h.top i k hi']; grind
    · have : i = k := by omega
      subst this
      have e1 := h.low i j (by omega) hk
      have e2 := h.low i i (by omega) hk
      have e3 : R i i * (R i j / R i i) = R i j := by rw [Rat.mul_comm]; exact Rat.div_mul_cancel p
      grind
  · intro i j hi hn
    rw [sm, col, self]
    have e1 := h.low i j (by omega) hn
    have e2 := h.low i k (by omega) hn
    show (if i = k then _ else _) = _
    rw [if_neg (by omega)]
    grind
theorem gj_all {A : Nat → Nat → Rat} {n : Nat} (ns : ∀ k, k ≤ n → NS A k) : ∀ k, k ≤ n → GJ A (gj A k) n k
  | 0, _ => ⟨fun i j h => by omega, fun i j _ _ => by simp [gj, sm]; grind⟩
  | k + 1, h => by
    have ih := gj_all ns k (by omega)
    exact gj_step ih (by omega) (gj_pivot ih (by omega) (ns (k + 1) h))
theorem gj_piv {A : Nat → Nat → Rat} {n k : Nat} (ns : ∀ k, k ≤ n → NS A k) (hk : k < n) : gj A k k k ≠ 0 := gj_pivot (gj_all ns k (by omega)) hk (ns (k + 1) hk)
/-- the one answer -/
theorem ns_unique {A : Nat → Nat → Rat} {n : Nat} (ns : NS A n) {x y : Nat → Rat} (h : ∀ i, i < n → sm n (fun l => A i l * x l) = sm n (fun l => A i l * y l)) : ∀ i, i < n → x i = y i := by
  intro i hi
  have := ns (fun l => x l - y l) (fun i hi => ?_) i hi
  · grind
  · have e := h i hi
    rw [sm_congr (g := fun l => A i l * x l - A i l * y l) (fun l _ => by grind), sm_sub]
    grind
theorem gj_sol {A : Nat → Nat → Rat} {n : Nat} (ns : ∀ k, k ≤ n → NS A k) {i j : Nat} (hi : i < n) : sm n (fun l => A i l * gj A n l j) = A i j := (gj_all ns n (Nat.le_refl _)).top i j hi
end El
namespace El
def nsum : Nat → (Nat → Nat) → Nat
  | 0, _ => 0
  | n + 1, f => nsum n f + f n
theorem nsum_le {n : Nat} {f g : Nat → Nat} (h : ∀ i, i < n → f i ≤ g i) : nsum n f ≤ nsum n g := by
  induction n with
  | zero => exact Nat.le_refl _
  | succ n ih =>
    have a := ih fun i hi => h i (by omega)
    have b := h n (by omega)
    rw [nsum, nsum]; omega
theorem nsum_const {n c : Nat} : nsum n (fun _ => c) = n * c := by
  induction n with
  | zero => simp [nsum]
  | succ n ih => rw [nsum, ih, Nat.add_mul]; omega
theorem nsum_add {n : Nat} {f g : Nat → Nat} : nsum n (fun i => f i + g i) = nsum n f + nsum n g := by
  induction n with
  | zero => rfl
  | succ n ih => rw [nsum, nsum, nsum, ih]; omega
theorem nsum_hit {n k : Nat} (h : k < n) : nsum n (fun v => if k = v then 1 else 0) = 1 := by
  induction n with
  | zero => omega
  | succ n ih =>
    rw [nsum]
    by_cases e : k = n
    · subst e
      have : nsum k (fun v => if k = v then 1 else 0) ≤ nsum k (fun _ => 0) := nsum_le fun i hi => by rw [if_neg (by omega)]; exact Nat.le_refl _
      rw [nsum_const] at this
      rw [if_pos rfl]; omega
    · rw [ih (by omega), if_neg e]
/-- how often a value comes -/
def cnt (f : Nat → Nat) (v : Nat) : Nat → Nat
  | 0 => 0
  | t + 1 => cnt f v t + if f t = v then 1 else 0
theorem cnt_all (f : Nat → Nat) (N : Nat) : ∀ T, (∀ t, t < T → f t < N) → nsum N (fun v => cnt f v T) = T
  | 0, _ => by
    have : nsum N (fun v => cnt f v 0) = nsum N (fun _ => 0) := rfl
    rw [this, nsum_const]; omega
  | T + 1, h => by
    have : nsum N (fun v => cnt f v (T + 1)) = nsum N (fun v => cnt f v T) + nsum N (fun v => if f T = v then 1 else 0) := by rw [← nsum_add]; rfl
    rw [this, cnt_all f N T fun t ht => h t (by omega), nsum_hit (h T (by omega))]
theorem cnt_pos {f : Nat → Nat} {v : Nat} : ∀ T, 0 < cnt f v T → ∃ t, t < T ∧ f t = v
  | 0, h => by simp [cnt] at h
  | T + 1, h => by
    by_cases e : f T = v
    · exact ⟨T, by omega, e⟩
    · rw [cnt, if_neg e] at h
      obtain ⟨t, ht, q⟩ := cnt_pos (f := f) (v := v) T (by omega)
      exact ⟨t, by omega, q⟩
theorem cnt_two {f : Nat → Nat} {v : Nat} : ∀ T, 1 < cnt f v T → ∃ t u, t < u ∧ u < T ∧ f t = v ∧ f u = v
  | 0, h => by simp [cnt] at h
  | T + 1, h => by
    by_cases e : f T = v
    · rw [cnt, if_pos e] at h
      obtain ⟨t, ht, q⟩ := cnt_pos (f := f) (v := v) T (by omega)
      exact ⟨t, T, ht, by omega, q, e⟩
    · rw [cnt, if_neg e] at h
      obtain ⟨t, u, h1, h2, h3⟩ := cnt_two (f := f) (v := v) T (by omega)
      exact ⟨t, u, h1, by omega, h3⟩
theorem pigeon {f : Nat → Nat} {N T : Nat} (h : ∀ t, t < T → f t < N) (hN : N < T) : ∃ t u, t < u ∧ u < T ∧ f t = f u := by
  by_cases q : ∃ v, v < N ∧ 1 < cnt f v T
  · obtain ⟨v, _, hv⟩ := q
    obtain ⟨t, u, h1, h2, h3, h4⟩ := cnt_two T hv
    exact ⟨t, u, h1, h2, by rw [h3, h4]⟩
  · have a := cnt_all f N T h
    have b : nsum N (fun v => cnt f v T) ≤ nsum N (fun _ => 1) := nsum_le fun v hv => by
      by_cases z : 1 < cnt f v T
      · exact absurd ⟨v, hv, z⟩ q
      · omega
    rw [nsum_const] at b
    omega
/-- several values as one -/
def code (W : Nat) (f : Nat → Nat) : Nat → Nat
  | 0 => 0
  | k + 1 => code W f k + f k * W ^ k
theorem code_lt {W : Nat} {f : Nat → Nat} : ∀ k, (∀ i, i < k → f i < W) → code W f k < W ^ k
  | 0, _ => by simp [code]
  | k + 1, h => by
    have a := code_lt k fun i hi => h i (by omega)
    have b := h k (by omega)
    rw [code, Nat.pow_succ]
    have c : f k * W ^ k + W ^ k ≤ W * W ^ k := by
      rw [← Nat.succ_mul]
      exact Nat.mul_le_mul_right _ b
    rw [Nat.mul_comm (W ^ k) W]
    omega
theorem code_inj {W : Nat} {f g : Nat → Nat} : ∀ k, (∀ i, i < k → f i < W) → (∀ i, i < k → g i < W) → code W f k = code W g k → ∀ i, i < k → f i = g i
  | 0, _, _, _, i, hi => by omega
  | k + 1, hf, hg, e, i, hi => by
    have a := code_lt k fun i hi => hf i (by omega)
    have b := code_lt k fun i hi => hg i (by omega)
    rw [code, code] at e
    have hp : 0 < W ^ k := by omega
    have e1 : f k = g k := by
      have x : (code W f k + f k * W ^ k) / W ^ k = f k := by
        rw [Nat.add_mul_div_right _ _ hp, Nat.div_eq_of_lt a]; omega
      have y : (code W g k + g k * W ^ k) / W ^ k = g k := by
        rw [Nat.add_mul_div_right _ _ hp, Nat.div_eq_of_lt b]; omega
      rw [← x, ← y, e]
    by_cases q : i = k
    · subst q; exact e1
    · exact code_inj k (fun i hi => hf i (by omega)) (fun i hi => hg i (by omega)) (by rw [e1] at e; omega) i (by omega)
theorem pigeons {k W T : Nat} {f : Nat → Nat → Nat} (h : ∀ t i, t < T → i < k → f t i < W) (hT : W ^ k < T) : ∃ t u, t < u ∧ u < T ∧ ∀ i, i < k → f t i = f u i := by
  obtain ⟨t, u, h1, h2, e⟩ := pigeon (f := fun t => code W (f t) k) (N := W ^ k) (T := T) (fun t ht => code_lt k fun i hi => h t i ht hi) hT
  exact ⟨t, u, h1, h2, code_inj k (fun i hi => h t i (by omega) hi) (fun i hi => h u i h2 hi) e⟩
/-- sums of whole numbers -/
def im : Nat → (Nat → Int) → Int
  | 0, _ => 0
  | n + 1, f => im n f + f n
theorem im_sub {n : Nat} {f g : Nat → Int} : im n (fun i => f i - g i) = im n f - im n g := by
  induction n with
  | zero => rfl
  | succ n ih => rw [im, im, im, ih]; omega
theorem im_congr {n : Nat} {f g : Nat → Int} (h : ∀ i, i < n → f i = g i) : im n f = im n g := by
  induction n with
  | zero => rfl
  | succ n ih => rw [im, im, ih fun i hi => h i (by omega), h n (by omega)]
theorem im_bound {n c : Nat} {f : Nat → Int} (h : ∀ i, i < n → (f i).natAbs ≤ c) : (im n f).natAbs ≤ n * c := by
  induction n with
  | zero => simp [im]
  | succ n ih =>
    have a := ih fun i hi => h i (by omega)
    have b := h n (by omega)
    rw [im, Nat.add_mul]; omega
/-- the l-th digit -/
def dig (M t l : Nat) : Nat := t / (M + 1) ^ l % (M + 1)
theorem dig_le (M t l : Nat) : dig M t l ≤ M := by
  have := Nat.mod_lt (t / (M + 1) ^ l) (show 0 < M + 1 by omega)
  unfold dig; omega
theorem dig_inj (M : Nat) : ∀ k t u, t < (M + 1) ^ k → u < (M + 1) ^ k → (∀ l, l < k → dig M t l = dig M u l) → t = u
  | 0, t, u, ht, hu, _ => by simp at ht hu; omega
  | k + 1, t, u, ht, hu, h => by
    rw [Nat.pow_succ] at ht hu
    have e := dig_inj M k (t / (M + 1)) (u / (M + 1)) (Nat.div_lt_of_lt_mul (by rw [Nat.mul_comm]; exact ht)) (Nat.div_lt_of_lt_mul (by rw [Nat.mul_comm]; exact hu)) fun l hl => by
      have := h (l + 1) (by omega)
      unfold dig at this ⊢
      rw [Nat.div_div_eq_div_mul, Nat.div_div_eq_div_mul, Nat.mul_comm (M + 1), ← Nat.pow_succ]
      exact this
    have e0 := h 0 (by omega)
    unfold dig at e0
    rw [Nat.pow_zero, Nat.div_one, Nat.div_one] at e0
    rw [← Nat.div_add_mod t (M + 1), ← Nat.div_add_mod u (M + 1), e, e0]
/-- a small answer of fewer equations than unknowns -/
theorem siegel {k B : Nat} (hB : 1 ≤ B) (a : Nat → Nat → Int) (ha : ∀ i l, i < k → l < k + 1 → (a i l).natAbs ≤ B) :
    ∃ v : Nat → Int, (∃ l, l < k + 1 ∧ v l ≠ 0) ∧ (∀ l, (v l).natAbs ≤ ((k + 1) * (2 * B)) ^ k) ∧ ∀ i, i < k → im (k + 1) (fun l => a i l * v l) = 0 := by
  generalize hM : ((k + 1) * (2 * B)) ^ k = M
  have hE : 1 ≤ (k + 1) * B := Nat.mul_pos (by omega) hB
  -- the value of a row, moved above 0
  have val : ∀ t i, i < k → (im (k + 1) (fun l => a i l * (dig M t l : Int))).natAbs ≤ (k + 1) * (B * M) := fun t i hi => im_bound fun l hl => by
    rw [Int.natAbs_mul, Int.natAbs_natCast]
    exact Nat.mul_le_mul (ha i l hi hl) (dig_le M t l)
  obtain ⟨t, u, h1, h2, e⟩ := pigeons (k := k) (W := 2 * ((k + 1) * (B * M)) + 1) (T := (M + 1) ^ (k + 1)) (f := fun t i => (im (k + 1) (fun l => a i l * (dig M t l : Int)) + ((k + 1) * (B * M) : Nat)).toNat)
    (fun t i _ hi => by have := val t i hi; omega) (by
      have w1 : 2 * ((k + 1) * (B * M)) + 1 ≤ ((k + 1) * (2 * B)) * (M + 1) := by
        have : (k + 1) * (2 * B) * (M + 1) = 2 * ((k + 1) * (B * M)) + 2 * ((k + 1) * B) := by
          rw [Nat.mul_add, Nat.mul_one]
          congr 1
          · rw [Nat.mul_left_comm (k + 1) 2 B, Nat.mul_assoc, Nat.mul_assoc]
          · rw [Nat.mul_left_comm]
        omega
      have w2 := Nat.pow_le_pow_left w1 k
      rw [Nat.mul_pow, hM] at w2
      have w3 : M * (M + 1) ^ k < (M + 1) ^ (k + 1) := by
        rw [Nat.pow_succ, Nat.mul_comm]
        exact Nat.mul_lt_mul_of_pos_left (by omega) (Nat.pow_pos (by omega))
      omega)
  refine ⟨fun l => (dig M t l : Int) - dig M u l, ?_, fun l => ?_, fun i hi => ?_⟩
  · by_cases q : ∃ l, l < k + 1 ∧ (dig M t l : Int) - dig M u l ≠ 0
    · exact q
    · have := dig_inj M (k + 1) t u (by omega) h2 fun l hl => by
        by_cases z : dig M t l = dig M u l
        · exact z
        · exact absurd ⟨l, hl, by omega⟩ q
      omega
  · have x := dig_le M t l
    have y := dig_le M u l
    show ((dig M t l : Int) - dig M u l).natAbs ≤ M
    omega
  · have z := e i hi
    have x := val t i hi
    have y := val u i hi
    have w : im (k + 1) (fun l => a i l * (dig M t l : Int)) = im (k + 1) (fun l => a i l * (dig M u l : Int)) := by
      omega
    rw [im_congr (g := fun l => a i l * (dig M t l : Int) - a i l * (dig M u l : Int)) fun l _ => Int.mul_sub .., im_sub, w]
    omega
/-- a row of whole numbers over one number below: the first n places and the j-th -/
structure RowB (A : Nat → Nat → Rat) (n j b i : Nat) (D : Int) (z : Nat → Int) : Prop where
  pos : 0 < D
  low : D.natAbs ≤ 2 ^ b
  val : ∀ l, (l < n ∨ l = j) → (z l).natAbs ≤ 2 ^ b ∧ (D : Rat) * A i l = z l
theorem sm_int {n : Nat} {f : Nat → Int} : sm n (fun i => (f i : Rat)) = (im n f : Rat) := by
  induction n with
  | zero => rfl
  | succ n ih => rw [sm, im, ih]; simp
/-- the answer of k equations as fractions over one number -/
theorem sol_frac {A : Nat → Nat → Rat} {n k b j : Nat} (hk : k ≤ n) (ns : NS A k) {D : Nat → Int} {z : Nat → Nat → Int} (hr : ∀ i, i < k → RowB A n j b i (D i) (z i)) {x : Nat → Rat} (hx : ∀ i, i < k → sm k (fun l => A i l * x l) = A i j) :
    ∃ (v0 : Int) (v : Nat → Int), v0 ≠ 0 ∧ v0.natAbs ≤ ((k + 1) * (2 * 2 ^ b)) ^ k ∧ (∀ l, (v l).natAbs ≤ ((k + 1) * (2 * 2 ^ b)) ^ k) ∧ ∀ l, l < k → (v0 : Rat) * x l = v l := by
  obtain ⟨v, ⟨l0, hl0, hv0⟩, hv, he⟩ := siegel (k := k) (B := 2 ^ b) Nat.one_le_two_pow (fun i l => if l = k then z i j else z i l) fun i l hi hl => by
    split
    · exact ((hr i hi).val j (.inr rfl)).1
    · exact ((hr i hi).val l (.inl (by omega))).1
  -- the equations for v
  have eq : ∀ i, i < k → sm k (fun l => A i l * (v l : Rat)) = - (A i j * v k) := fun i hi => by
    have e := he i hi
    rw [im, if_pos rfl] at e
    have e1 : im k (fun l => (if l = k then z i j else z i l) * v l) = im k (fun l => z i l * v l) := im_congr fun l hl => by rw [if_neg (by omega)]
    rw [e1] at e
    have dp : (D i : Rat) ≠ 0 := by
      have := (hr i hi).pos
      rw [Ne, Rat.intCast_eq_zero_iff]; omega
    have e2 : sm k (fun l => (D i : Rat) * (A i l * (v l : Rat))) = (im k (fun l => z i l * v l) : Rat) := by
      rw [← sm_int]
      refine sm_congr fun l hl => ?_
      rw [← Rat.mul_assoc, ((hr i hi).val l (.inl (by omega))).2, Rat.intCast_mul]
    rw [sm_mul] at e2
    have e3 : (im k (fun l => z i l * v l) : Rat) = - ((z i j : Rat) * (v k : Rat)) := by
      have : im k (fun l => z i l * v l) = - (z i j * v k) := by omega
      rw [this]; simp
    rw [e3, ← ((hr i hi).val j (.inr rfl)).2] at e2
    have e4 : (D i : Rat) * (sm k (fun l => A i l * (v l : Rat)) + A i j * v k) = 0 := by grind
    rcases Rat.mul_eq_zero.mp e4 with h | h
    · exact absurd h dp
    · grind
  have vk : v k ≠ 0 := by
    intro q
    have : ∀ i, i < k → (v i : Rat) = 0 := ns (fun l => (v l : Rat)) fun i hi => by
      have := eq i hi
      rw [q] at this
      rw [this]; simp
    by_cases e : l0 = k
    · subst e; exact hv0 q
    · have := this l0 (by omega)
      rw [Rat.intCast_eq_zero_iff] at this
      exact hv0 this
  refine ⟨- v k, v, by omega, by rw [Int.natAbs_neg]; exact hv k, hv, ?_⟩
  have u := ns_unique ns (x := fun l => ((- v k : Int) : Rat) * x l) (y := fun l => (v l : Rat)) fun i hi => by
    rw [eq i hi]
    have : sm k (fun l => A i l * (((- v k : Int) : Rat) * x l)) = ((- v k : Int) : Rat) * sm k (fun l => A i l * x l) := by
      rw [← sm_mul]
      exact sm_congr fun l _ => by grind
    rw [this, hx i hi]
    simp
    grind
  exact u
theorem qlt_of_frac {q : Rat} {v0 v : Int} {m : Nat} (h0 : v0 ≠ 0) (e : (v0 : Rat) * q = v) (h1 : v0.natAbs < 2 ^ m) (h2 : v.natAbs < 2 ^ m) : QLt m q := by
  have e2 : q = Rat.divInt v v0 := by
    rw [Rat.divInt_eq_div, ← e, Rat.mul_comm]
    exact (Rat.mul_div_cancel (by rw [Ne, Rat.intCast_eq_zero_iff]; exact h0)).symm
  rcases Int.lt_or_gt_of_ne h0 with h | h
  · rw [e2, ← Rat.neg_divInt_neg]
    exact QLt_divInt (by omega) (by rw [Int.natAbs_neg]; exact h2) (by rw [Int.natAbs_neg]; exact h1)
  · rw [e2]
    exact QLt_divInt h h2 h1
theorem pow_bound {k b c : Nat} (hc : k + 1 ≤ 2 ^ c) : ((k + 1) * (2 * 2 ^ b)) ^ k ≤ 2 ^ ((c + 1 + b) * k) := by
  rw [Nat.pow_mul]
  refine Nat.pow_le_pow_left ?_ k
  have : 2 ^ (c + 1 + b) = 2 ^ c * (2 * 2 ^ b) := by rw [Nat.pow_add, Nat.pow_succ, Nat.mul_assoc]
  rw [this]
  exact Nat.mul_le_mul_right _ hc
/-- what the numbers of the elimination are at most -/
theorem gj_bound {A : Nat → Nat → Rat} {n b c j k : Nat} (hk : k ≤ n) (ns : ∀ k, k ≤ n → NS A k) {D : Nat → Int} {z : Nat → Nat → Int} (hr : ∀ i, i < n → RowB A n j b i (D i) (z i)) (hc : k + 1 ≤ 2 ^ c) {i : Nat} (hi : i < n) :
    QLt (b + (c + 1 + b) * k + c + 1) (gj A k i j) := by
  have G := gj_all ns k hk
  obtain ⟨v0, v, h0, h1, h2, h3⟩ := sol_frac hk (ns k hk) (fun i hi => hr i (by omega)) (x := fun l => gj A k l j) (fun i hi => G.top i j hi)
  have hp := pow_bound (k := k) (b := b) hc
  have up : ∀ x : Nat, x ≤ 2 ^ ((c + 1 + b) * k) → x < 2 ^ (b + (c + 1 + b) * k + c + 1) := fun x hx => by
    refine Nat.lt_of_le_of_lt hx (Nat.pow_lt_pow_right (by decide) (by omega))
  by_cases hik : i < k
  · exact qlt_of_frac h0 (h3 i hik) (up _ (Nat.le_trans h1 hp)) (up _ (Nat.le_trans (h2 i) hp))
  · have R := hr i hi
    have e : ((D i * v0 : Int) : Rat) * gj A k i j = ((z i j * v0 - im k (fun l => z i l * v l) : Int) : Rat) := by
      rw [G.low i j (by omega) hi]
      have a1 : sm k (fun l => ((D i : Rat) * A i l) * ((v0 : Rat) * gj A k l j)) = (im k (fun l => z i l * v l) : Rat) := by
        rw [← sm_int]
        refine sm_congr fun l hl => ?_
        rw [(R.val l (.inl (by omega))).2, h3 l hl, Rat.intCast_mul]
      have a2 : sm k (fun l => ((D i : Rat) * A i l) * ((v0 : Rat) * gj A k l j)) = ((D i : Rat) * v0) * sm k (fun l => A i l * gj A k l j) := by
        rw [← sm_mul]
        exact sm_congr fun l _ => by grind
      rw [a2] at a1
      have a3 := (R.val j (.inr rfl)).2
      rw [Rat.intCast_sub, Rat.intCast_mul, Rat.intCast_mul, ← a1, ← a3]
      grind
    have m1 : (2 : Nat) ^ (b + (c + 1 + b) * k + c + 1) = 2 ^ b * 2 ^ ((c + 1 + b) * k) * (2 ^ c * 2) := by
      rw [Nat.add_assoc (b + _), Nat.pow_add, Nat.pow_add, Nat.pow_succ]
    have c1 : 1 ≤ 2 ^ c := Nat.one_le_two_pow
    have P1 : 1 ≤ 2 ^ b * 2 ^ ((c + 1 + b) * k) := Nat.mul_pos Nat.one_le_two_pow Nat.one_le_two_pow
    refine qlt_of_frac (by have := R.pos; exact Int.mul_ne_zero (by omega) h0) e ?_ ?_
    · rw [Int.natAbs_mul, m1]
      have x := Nat.mul_le_mul R.low (Nat.le_trans h1 hp)
      have y : 2 ^ b * 2 ^ ((c + 1 + b) * k) * 2 ≤ 2 ^ b * 2 ^ ((c + 1 + b) * k) * (2 ^ c * 2) := Nat.mul_le_mul_left _ (by omega)
      omega
    · have x1 : (z i j * v0).natAbs ≤ 2 ^ b * 2 ^ ((c + 1 + b) * k) := by
        rw [Int.natAbs_mul]
        exact Nat.mul_le_mul (R.val j (.inr rfl)).1 (Nat.le_trans h1 hp)
      have x2 : (im k (fun l => z i l * v l)).natAbs ≤ k * (2 ^ b * 2 ^ ((c + 1 + b) * k)) := im_bound fun l hl => by
        rw [Int.natAbs_mul]
        exact Nat.mul_le_mul (R.val l (.inl (by omega))).1 (Nat.le_trans (h2 l) hp)
      rw [m1]
      generalize 2 ^ b * 2 ^ ((c + 1 + b) * k) = P at *
      have y1 : P * (k + 1) ≤ P * 2 ^ c := Nat.mul_le_mul_left _ hc
      have y2 : P * (2 ^ c * 2) = P * 2 ^ c * 2 := by rw [Nat.mul_assoc]
      rw [Nat.mul_add, Nat.mul_one, Nat.mul_comm P k] at y1
      have : (z i j * v0 - im k (fun l => z i l * v l)).natAbs ≤ P + k * P := by omega
      omega
theorem den_mul_self (q : Rat) : (q.den : Rat) * q = q.num := by
  have hb : ((q.den : Int) : Rat) ≠ 0 := by
    rw [Ne, Rat.intCast_eq_zero_iff]
    have := q.den_pos
    omega
  have h : (q.num : Rat) / ((q.den : Int) : Rat) = q := by rw [← Rat.divInt_eq_div, Rat.num_divInt_den]
  have h2 := Rat.div_mul_cancel (a := (q.num : Rat)) hb
  rw [h, Rat.intCast_natCast] at h2
  rw [Rat.mul_comm]
  exact h2
end El
namespace Dh
open PySem PySem.Spec L2 PySem.W
def pQ (q : Rat) : PyData := .tuple [.int q.num, .int (q.den : Int)]
def pQs (l : List Rat) : PyData := .tuple (l.map pQ)
/-- small enough for all that is reckoned once more -/
def Bd (q : Rat) : Prop := QLt 4500 q
theorem QLt.bd {k : Nat} {q : Rat} (h : QLt k q) (hk : k ≤ 4500 := by omega) : Bd q := h.mono hk
theorem intBits_le {i : Int} {k : Nat} (h : i.natAbs < 2 ^ k) : Builtin.Int.intBits i ≤ k := by
  unfold Builtin.Int.intBits
  split
  · exact Nat.zero_le _
  · rename_i q
    have hz : i.natAbs ≠ 0 := by
      intro z
      exact q (by simpa using z)
    have := (Nat.log2_lt hz).mpr h
    omega
theorem mulOk_of {i j : Int} {a b : Nat} (h1 : i.natAbs < 2 ^ a) (h2 : j.natAbs < 2 ^ b) (h : a + b ≤ 134217728) : mulOk i j = true := by
  have x := intBits_le h1
  have y := intBits_le h2
  exact Nat.ble_eq_true_of_le (by omega)
theorem mulOk_nn {p q : Rat} (hp : Bd p) (hq : Bd q) : mulOk p.num q.num = true := mulOk_of hp.1 hq.1 (by decide)
theorem mulOk_nd {p q : Rat} (hp : Bd p) (hq : Bd q) : mulOk p.num (q.den : Int) = true := mulOk_of hp.1 hq.den' (by decide)
theorem mulOk_dn {p q : Rat} (hp : Bd p) (hq : Bd q) : mulOk (p.den : Int) q.num = true := mulOk_of hp.den' hq.1 (by decide)
theorem mulOk_dd {p q : Rat} (hp : Bd p) (hq : Bd q) : mulOk (p.den : Int) (q.den : Int) = true := mulOk_of hp.den' hq.den' (by decide)
theorem pylong_of {i j : Int} (h : j.natAbs < 2 ^ 9000) : Builtin.divisionGoesByPylong i j = false := by
  unfold Builtin.divisionGoesByPylong
  by_cases hz : j = 0
  · subst hz; simp
  · have hn : j.natAbs ≠ 0 := by omega
    have := (Nat.log2_lt hn).mpr h
    have q : ¬ (j.natAbs.log2 / 30 + 1 > 300) := by omega
    simp [hz, q]
theorem gg_pos {a b : Int} (h : b ≠ 0) : 0 < gg a b := by
  unfold gg
  have := Nat.gcd_pos_of_pos_right a.natAbs (n := b.natAbs) (by omega)
  omega
theorem gg_le {a b : Int} (h : b ≠ 0) : (gg a b).natAbs ≤ b.natAbs := by
  unfold gg
  rw [Int.natAbs_natCast]
  exact Nat.gcd_le_right _ (by omega)
theorem fdiv_pos {i j : Int} (h : 0 < j) : i.fdiv j = i / j := Int.fdiv_eq_ediv_of_nonneg _ (Int.le_of_lt h)
theorem fmod_pos {i j : Int} (h : 0 < j) : i.fmod j = i % j := Int.fmod_eq_emod_of_nonneg _ (Int.le_of_lt h)
theorem sz1 : 1 ≤ sizeLine := by decide
theorem sz2 : 2 ≤ sizeLine := by decide
theorem sz3 : 3 ≤ sizeLine := by decide
theorem sz4 : 4 ≤ sizeLine := by decide
theorem sz5 : 5 ≤ sizeLine := by decide
theorem szle {n : Nat} (h : n ≤ 1000) : n ≤ sizeLine := Nat.le_trans h (by decide)
theorem szlt {n : Nat} (h : n ≤ 1000) : n < sizeLine := Nat.lt_of_le_of_lt h (by decide)
theorem eqv_int {a b : Int} : PyData.eqv (.int a) (.int b) = decide (a = b) := by
  simp [PyData.eqv]
  by_cases h : a = b <;> simp [h]
theorem eqv_pQ {p q : Rat} : PyData.eqv (pQ p) (pQ q) = decide (p = q) := by
  unfold pQ
  simp only [PyData.eqv, PyData.eqvAll, Bool.and_true]
  by_cases h : p = q
  · subst h; simp
  · have : ¬ (p.num = q.num ∧ p.den = q.den) := fun ⟨a, b⟩ => h (Rat.ext a b)
    simp only [h, decide_false]
    by_cases a : p.num = q.num
    · have b : ¬ (p.den : Int) = q.den := fun z => this ⟨a, by omega⟩
      simp [a, b]
    · simp [a]
theorem eqOk_pQ {q : Rat} : eqOk (pQ q) = true := by
  unfold pQ eqOk SeqAt.shaped
  simp [noDict, noDicts, PyData.canLay0, PyData.canLayAll0, PyData.depth, PyData.depthAll]
theorem fEq_pQ {p q : Rat} {neg : Bool} : fEq neg (.d (pQ p)) (.d (pQ q)) = some (.d (.bool (if neg then !decide (p = q) else decide (p = q)))) := by
  have : fEq neg (.d (pQ p)) (.d (pQ q)) = fEqD neg (.d (pQ p)) (.d (pQ q)) := rfl
  rw [this]
  unfold fEqD
  simp [eqOk_pQ, eqv_pQ]
theorem eqOk_int {i : Int} : eqOk (.int i) = true := by
  unfold eqOk SeqAt.shaped
  simp [noDict, PyData.canLay0, PyData.depth]
theorem fEq_int {i j : Int} {neg : Bool} : fEq neg (.d (.int i)) (.d (.int j)) = some (.d (.bool (if neg then !decide (i = j) else decide (i = j)))) := by
  have : fEq neg (.d (.int i)) (.d (.int j)) = fEqD neg (.d (.int i)) (.d (.int j)) := rfl
  rw [this]
  unfold fEqD
  simp [eqOk_int, eqv_int]
theorem gFdiv_pos {i j : Int} (h : 0 < j) (hl : j.natAbs < 2 ^ 9000) : gFdiv i j = some (.int (i / j)) := by
  unfold gFdiv
  rw [if_pos ⟨by omega, pylong_of hl⟩, fdiv_pos h]
theorem gMod_pos {i j : Int} (h : 0 < j) : gMod i j = some (.int (i % j)) := by
  unfold gMod
  rw [if_pos (by omega), fmod_pos h]
theorem fMul_ok {i j : Int} (h : mulOk i j = true) : fMul (.d (.int i)) (.d (.int j)) = some (.d (.int (i * j))) := by
  rw [ev_fMulI, if_pos h]
theorem den_lt {p q : Rat} (hp : Bd p) (hq : Bd q) : ((p.den : Int) * (q.den : Int)).natAbs < 2 ^ 9000 := lt_mulB hp.den' hq.den'
def pairK (r : R) : Option (Int × PyData) := match r with | .d (.tuple [.int q, y]) => some (q, y) | _ => none
@[simp] theorem pairK_d {q : Int} {y : PyData} : pairK (.d (.tuple [.int q, y])) = some (q, y) := rfl
theorem mPair_eq {i j : Nat} {ix a : Mx} {ρ : Ev} {s s1 : Sto} {r : R} (e : a ρ s = some (r, s1)) : mPair i ix j a ρ s = match pairK r with
    | some (q, y) => (match ix ρ s1, ρ[i]? with
      | some (.d (.int k), s2), some (some .s) => (match ixN s2.length k with
        | some n => some (.nx, ρ.set j (some (.d y)), s2.set n q)
        | none => none)
      | _, _ => none)
    | none => none := by
  unfold mPair pairK
  rw [e]
  split
  · rename_i q y s2 e2
    cases e2
    rfl
  · rename_i h
    split
    · rename_i q y h2
      split at h2
      · rename_i q' y'
        cases h2
        exact absurd rfl (h _ _ s1)
      · cases h2
    · rfl
@[simp ↓] theorem ws_pair {i j : Nat} {ix a : Mx} {ρ : Ev} {s : Sto} {QS : Out → Ev → Sto → Prop} : WS (mPair i ix j a) ρ s QS = WX a ρ s fun r s1 => WO (pairK r) fun p => WX ix ρ s1 fun z s2 => WO (intK z) fun k => getC ρ i = some .s ∧ WO (ixN s2.length k) fun n => WO (some (ρ.set j (some (.d p.2)))) fun ρ1 => WO (some (s2.set n p.1)) fun s3 => QS .nx ρ1 s3 := by
  apply propext
  unfold WS WX WO
  constructor
  · rintro ⟨o, ρ', s', e, q⟩
    rcases h : a ρ s with _ | ⟨r, s1⟩
    · unfold mPair at e; rw [h] at e; cases e
    · rw [mPair_eq h] at e
      split at e
      · rename_i q' y hp
        split at e
        · rename_i k s2 e1 e2
          split at e
          · rename_i n en
            cases e
            exact ⟨r, s1, rfl, (q', y), hp, _, s2, e1, k, rfl, getC_of e2, n, en, _, rfl, _, rfl, q⟩
          · cases e
        · cases e
      · cases e
  · rintro ⟨r, s1, h, ⟨q', y⟩, hp, z, s2, e1, k, hk, hs, n, en, _, e5, _, e6, q⟩
    cases e5
    cases e6
    have hz : z = .d (.int k) := by
      cases z with
      | d z =>
        cases z with
        | int i => cases hk; rfl
        | _ => cases hk
      | _ => cases hk
    subst hz
    exact ⟨_, _, _, by rw [mPair_eq h, hp]; simp only [e1, of_getC hs, en], q⟩
@[simp ↓] theorem wx_m3 {f : R → R → R → Option R} {a b c : Mx} {ρ : Ev} {s : Sto} {Q : R → Sto → Prop} : WX (m3 f a b c) ρ s Q = WX a ρ s fun x s1 => WX b ρ s1 fun y s2 => WX c ρ s2 fun z s3 => WO (f x y z) fun w => Q w s3 := by
  unfold WX m3
  simp only [wbnd, wret]
def tup2 (r : R) : Option (PyData × PyData) := match r with | .d (.tuple [x, y]) => some (x, y) | _ => none
@[simp] theorem tup2_d {x y : PyData} : tup2 (.d (.tuple [x, y])) = some (x, y) := rfl
theorem mSwap_eq {i : Nat} {ix1 ix2 a : Mx} {ρ : Ev} {s s1 : Sto} {r : R} (e : a ρ s = some (r, s1)) : mSwap i ix1 ix2 a ρ s = match tup2 r with
    | some (x, y) => (match ix1 ρ s1, ρ[i]? with
      | some (.d (.int k1), s2), some (some (.o xs)) => (match ixN xs.length k1 with
        | some j1 => (match ix2 (ρ.set i (some (.o (xs.set j1 x)))) s2 with
          | some (.d (.int k2), s3) => (match ixN xs.length k2 with
            | some j2 => some (.nx, (ρ.set i (some (.o (xs.set j1 x)))).set i (some (.o ((xs.set j1 x).set j2 y))), s3)
            | none => none)
          | _ => none)
        | none => none)
      | _, _ => none)
    | none => none := by
  unfold mSwap tup2
  rw [e]
  split
  · rename_i x y s2 e2
    cases e2
    rfl
  · rename_i h
    split
    · rename_i x y h2
      split at h2
      · rename_i x' y'
        cases h2
        exact absurd rfl (h _ _ s1)
      · cases h2
    · rfl
@[simp ↓] theorem ws_swap {i : Nat} {ix1 ix2 a : Mx} {ρ : Ev} {s : Sto} {QS : Out → Ev → Sto → Prop} : WS (mSwap i ix1 ix2 a) ρ s QS = WX a ρ s fun r s1 => WO (tup2 r) fun p => WX ix1 ρ s1 fun z s2 => WO (intK z) fun k1 => WO ((getC ρ i).bind ownK) fun xs => WO (ixN xs.length k1) fun j1 =>
    WO (some (ρ.set i (some (.o (xs.set j1 p.1))))) fun ρ1 => WX ix2 ρ1 s2 fun z s3 => WO (intK z) fun k2 => WO (ixN xs.length k2) fun j2 => WO (some (ρ1.set i (some (.o ((xs.set j1 p.1).set j2 p.2))))) fun ρ2 => QS .nx ρ2 s3 := by
  apply propext
  unfold WS WX WO
  constructor
  · rintro ⟨o, ρ', s', e, q⟩
    rcases h : a ρ s with _ | ⟨r, s1⟩
    · unfold mSwap at e; rw [h] at e; cases e
    · rw [mSwap_eq h] at e
      split at e
      · rename_i x y hp
        split at e
        · rename_i k1 s2 xs e1 e2
          split at e
          · rename_i j1 ej1
            split at e
            · rename_i k2 s3 e3
              split at e
              · rename_i j2 ej2
                cases e
                exact ⟨r, s1, rfl, (x, y), hp, _, s2, e1, k1, rfl, xs, by rw [getC_of e2]; rfl, j1, ej1, _, rfl, _, _, e3, k2, rfl, j2, ej2, _, rfl, q⟩
              · cases e
            · cases e
          · cases e
        · cases e
      · cases e
  · rintro ⟨r, s1, h, ⟨x, y⟩, hp, z, s2, e1, k1, hk, xs, hg, j1, ej1, _, e5, z2, s3, e3, k2, hk2, j2, ej2, _, e6, q⟩
    cases e5
    cases e6
    have hz : z = .d (.int k1) := by
      cases z with
      | d z =>
        cases z with
        | int i => cases hk; rfl
        | _ => cases hk
      | _ => cases hk
    have hz2 : z2 = .d (.int k2) := by
      cases z2 with
      | d z =>
        cases z with
        | int i => cases hk2; rfl
        | _ => cases hk2
      | _ => cases hk2
    subst hz hz2
    cases hc : getC ρ i with
    | none => rw [hc] at hg; cases hg
    | some c =>
      rw [hc] at hg
      cases c with
      | o ys =>
        cases hg
        exact ⟨_, _, _, by rw [mSwap_eq h, hp]; simp only [e1, of_getC hc, ej1, e3, ej2], q⟩
      | _ => cases hg
/-- a dict made by a comprehension -/
def WDc (vs : List Nat) (g : Gx) (t : Mt) (ek ev : Mx) (xs : List PyData) (acc : List (Key × PyData)) (ρ : Ev) (s : Sto) (Q : List (Key × PyData) → Sto → Prop) (_t : Tg (vs, g, t, ek, ev, Q) := .mk) : Prop := ∃ r s', dcRun vs g t ek ev xs acc ρ s = some (r, s') ∧ Q r s'
@[simp ↓] theorem wx_dc {it : Mi} {vs : List Nat} {g : Gx} {t : Mt} {ek ev : Mx} {ρ : Ev} {s : Sto} {Q : R → Sto → Prop} : WX (mDc it vs g t ek ev) ρ s Q = WI it ρ s fun xs s1 => WDc vs g t ek ev xs [] ρ s1 fun acc s2 => Q (.d (dOf acc)) s2 := by
  apply propext
  unfold WX WDc WI mDc
  rcases it ρ s with _ | ⟨xs, s1⟩
  · simp
  · dsimp only
    rcases h : dcRun vs g t ek ev xs [] ρ s1 with _ | ⟨acc, s2⟩ <;> simp [h]
/-- its keys new each time -/
theorem WDc_new {α : Type} {vs : List Nat} {g : Gx} {ek ev : Mx} {ρ : Ev} {s : Sto} {Q : List (Key × PyData) → Sto → Prop} (enc : α → PyData) (kf : α → Key) (vf : α → PyData) (l : List α) (hl : l.length ≤ sizeLine) (hnew : l.Pairwise fun x y => kf x ≠ kf y)
    (h : ∀ x ∈ l, WO (g (enc x) (wipeE ρ vs)) fun ρ1 => WX ek ρ1 s fun rk s1 => s1 = s ∧ keyP rk = some (kf x) ∧ WX ev ρ1 s fun rv s2 => s2 = s ∧ toD rv = some (vf x)) (q : Q (l.map fun x => (kf x, vf x)) s) : WDc vs g mYes ek ev (l.map enc) [] ρ s Q := by
  refine ⟨_, s, ?_, q⟩
  clear q
  have key : ∀ (m : List α) (acc : List α), acc ++ m = l → dcRun vs g mYes ek ev (m.map enc) (acc.map fun x => (kf x, vf x)) ρ s = some ((acc ++ m).map fun x => (kf x, vf x), s) := by
    intro m
    induction m with
    | nil => intro acc _; rw [List.append_nil]; rfl
    | cons x m ih =>
      intro acc e
      obtain ⟨ρ1, e1, rk, s1, e2, rfl, hk, rv, s2, e3, rfl, hv⟩ := h x (by rw [← e]; simp)
      have hlen : acc.length < sizeLine := by
        have := congrArg List.length e
        rw [List.length_append, List.length_cons] at this
        omega
      have put : putP (acc.map fun x => (kf x, vf x)) (kf x) (vf x) = (acc ++ [x]).map fun x => (kf x, vf x) := by
        unfold putP
        rw [if_neg, List.map_append]
        · rfl
        · rw [Bool.not_eq_true, List.any_eq_false]
          intro p hp
          obtain ⟨y, hy, rfl⟩ := List.mem_map.mp hp
          rw [← e, List.pairwise_append] at hnew
          simpa using hnew.2.2 y hy x (by simp)
      rw [List.map_cons]
      unfold dcRun
      simp only [e1, ev_mYes, e2, e3, hk, hv, List.length_map, hlen, if_true]
      rw [put, ih (acc ++ [x]) (by rw [← e]; simp)]
      simp
  exact key l [] rfl
end Dh
namespace WW
open PySem PySem.Spec L2 Dh
def top (i : Nat) : Stmt := PySem.Challenge.pw_deedhouses_k17_ranks_sure_and_certain_st.main.body.getD i (.Pass ⟨0, 0, 0, 0⟩)
abbrev s_is_whole : Stmt := top 2
abbrev n_is_whole : List Str := ["value"]
abbrev p_is_whole : List Str := ["value"]
abbrev s_is_between : Stmt := top 3
abbrev n_is_between : List Str := ["value", "low", "high"]
abbrev p_is_between : List Str := ["value", "low", "high"]
abbrev s_is_tuple_of : Stmt := top 4
abbrev n_is_tuple_of : List Str := ["value", "many"]
abbrev p_is_tuple_of : List Str := ["value", "many"]
abbrev s_is_ratio : Stmt := top 8
abbrev n_is_ratio : List Str := ["value"]
abbrev p_is_ratio : List Str := ["value"]
abbrev s_is_row : Stmt := top 9
abbrev n_is_row : List Str := ["value", "many", "each"]
abbrev p_is_row : List Str := ["value", "many"]
abbrev s_ratio : Stmt := top 10
abbrev n_ratio : List Str := ["top", "low", "part"]
abbrev p_ratio : List Str := ["top", "low"]
abbrev s_plus : Stmt := top 11
abbrev n_plus : List Str := ["one", "two"]
abbrev p_plus : List Str := ["one", "two"]
abbrev s_minus : Stmt := top 12
abbrev n_minus : List Str := ["one", "two"]
abbrev p_minus : List Str := ["one", "two"]
abbrev s_times : Stmt := top 13
abbrev n_times : List Str := ["one", "two"]
abbrev p_times : List Str := ["one", "two"]
abbrev s_over : Stmt := top 14
abbrev n_over : List Str := ["one", "two"]
abbrev p_over : List Str := ["one", "two"]
abbrev s_is_less : Stmt := top 15
abbrev n_is_less : List Str := ["one", "two"]
abbrev p_is_less : List Str := ["one", "two"]
abbrev s_total : Stmt := top 16
abbrev n_total : List Str := ["fractions", "found", "each"]
abbrev p_total : List Str := ["fractions"]
abbrev s_less_row : Stmt := top 18
abbrev n_less_row : List Str := ["row", "lead", "by", "here", "there"]
abbrev p_less_row : List Str := ["row", "lead", "by"]
abbrev s_answers_of : Stmt := top 19
abbrev n_answers_of : List Str := ["table", "rights", "rows", "many", "place", "spot", "lead", "row", "right", "at", "each"]
abbrev p_answers_of : List Str := ["table", "rights"]
abbrev s_are_chances : Stmt := top 24
abbrev n_are_chances : List Str := ["value", "stands", "goals", "each", "stand", "chance", "_", "one", "two"]
abbrev p_are_chances : List Str := ["value", "stands"]
abbrev s_is_deed : Stmt := top 25
abbrev n_is_deed : List Str := ["value", "pays", "stands"]
abbrev p_is_deed : List Str := ["value", "pays", "stands"]
abbrev s_is_stand : Stmt := top 26
abbrev n_is_stand : List Str := ["value", "pays", "stands", "each"]
abbrev p_is_stand : List Str := ["value", "pays", "stands"]
abbrev s_is_share : Stmt := top 27
abbrev n_is_share : List Str := ["value"]
abbrev p_is_share : List Str := ["value"]
abbrev s_is_house_by : Stmt := top 28
abbrev n_is_house_by : List Str := ["value", "stands", "each"]
abbrev p_is_house_by : List Str := ["value"]
abbrev s_check_house : Stmt := top 34
abbrev n_check_house : List Str := ["value"]
abbrev p_check_house : List Str := ["value"]
abbrev s_wrong_goal : Stmt := top 36
abbrev n_wrong_goal : List Str := ["house", "value", "index", "each"]
abbrev p_wrong_goal : List Str := ["house", "value"]
abbrev s_led_to : Stmt := top 37
abbrev n_led_to : List Str := ["house", "stand", "deed", "goal", "_"]
abbrev p_led_to : List Str := ["house", "stand", "deed"]
abbrev s_mean_behind : Stmt := top 38
abbrev n_mean_behind : List Str := ["house", "worths", "stand", "deed", "goal", "chance"]
abbrev p_mean_behind : List Str := ["house", "worths", "stand", "deed"]
abbrev s_reaching : Stmt := top 39
abbrev n_reaching : List Str := ["house", "goals", "choice", "found", "grown", "news", "stand", "deed", "goal"]
abbrev p_reaching : List Str := ["house", "goals", "choice"]
abbrev s_coming_by : Stmt := top 40
abbrev n_coming_by : List Str := ["house", "goals", "choice", "open_ones", "table", "rights", "stand", "told", "row", "found", "goal", "chance", "each"]
abbrev p_coming_by : List Str := ["house", "goals", "choice"]
abbrev s_better_deed : Stmt := top 41
abbrev n_better_deed : List Str := ["house", "worths", "stand", "deed", "best", "most", "other", "behind"]
abbrev p_better_deed : List Str := ["house", "worths", "stand", "deed"]
abbrev s_greatest_by : Stmt := top 42
abbrev n_greatest_by : List Str := ["house", "goals", "choice", "other", "worths", "stand", "deed"]
abbrev p_greatest_by : List Str := ["house", "goals"]
abbrev s_range_of : Stmt := top 45
abbrev n_range_of : List Str := ["house", "stand"]
abbrev p_range_of : List Str := ["house", "stand"]
abbrev s_staying_deed : Stmt := top 44
abbrev n_staying_deed : List Str := ["house", "lot", "stand", "deeds", "deed", "goal"]
abbrev p_staying_deed : List Str := ["house", "lot", "stand"]
abbrev s_staying : Stmt := top 43
abbrev n_staying : List Str := ["house", "goals", "found", "left", "stand"]
abbrev p_staying : List Str := ["house", "goals"]
abbrev s_worse_deed : Stmt := top 46
abbrev n_worse_deed : List Str := ["house", "worths", "stand", "deed", "best", "least", "other", "behind"]
abbrev p_worse_deed : List Str := ["house", "worths", "stand", "deed"]
abbrev s_least_by : Stmt := top 47
abbrev n_least_by : List Str := ["house", "goals", "lot", "held", "choice", "other", "worths", "stand", "deed"]
abbrev p_least_by : List Str := ["house", "goals"]
abbrev s_meets_all : Stmt := top 49
abbrev n_meets_all : List Str := ["house", "known", "stand", "deed", "goal"]
abbrev p_meets_all : List Str := ["house", "known", "stand"]
abbrev s_ranks_by : Stmt := top 48
abbrev n_ranks_by : List Str := ["house", "goals", "known", "rank", "news", "stand"]
abbrev p_ranks_by : List Str := ["house", "goals"]
abbrev s_check_goals : Stmt := top 51
abbrev n_check_goals : List Str := ["house", "value", "index"]
abbrev p_check_goals : List Str := ["house", "value"]
abbrev s_greatest_coming : Stmt := top 52
abbrev n_greatest_coming : List Str := ["house", "goals"]
abbrev p_greatest_coming : List Str := ["house", "goals"]
abbrev s_least_coming : Stmt := top 53
abbrev n_least_coming : List Str := ["house", "goals"]
abbrev p_least_coming : List Str := ["house", "goals"]
abbrev s_ranks_of : Stmt := top 54
abbrev n_ranks_of : List Str := ["house", "goals"]
abbrev p_ranks_of : List Str := ["house", "goals"]
abbrev s_stands_of_one : Stmt := top 55
abbrev n_stands_of_one : List Str := ["row", "stand", "each"]
abbrev p_stands_of_one : List Str := ["row"]
abbrev s_sure_stands : Stmt := top 56
abbrev n_sure_stands : List Str := ["house", "goals"]
abbrev p_sure_stands : List Str := ["house", "goals"]
abbrev s_certain_stands : Stmt := top 57
abbrev n_certain_stands : List Str := ["house", "goals"]
abbrev p_certain_stands : List Str := ["house", "goals"]
abbrev s_law_spring : Stmt := top 59
abbrev n_law_spring : List Str := ["_law_script", "_law_lap", "_law_mixed", "_law_cell", "_law_own"]
abbrev p_law_spring : List Str := ["_law_script", "_law_lap"]
abbrev s_law_pick : Stmt := top 60
abbrev n_law_pick : List Str := ["_law_spring_here", "_law_limit", "_law_digit", "_law_mixed"]
abbrev p_law_pick : List Str := ["_law_spring_here", "_law_limit"]
abbrev s_law_any_of : Stmt := top 61
abbrev n_law_any_of : List Str := ["_law_spring_here", "_law_some"]
abbrev p_law_any_of : List Str := ["_law_spring_here", "_law_some"]
abbrev s_law_frac : Stmt := top 62
abbrev n_law_frac : List Str := ["_law_up", "_law_down", "_law_one", "_law_two"]
abbrev p_law_frac : List Str := ["_law_up", "_law_down"]
abbrev s_law_plus : Stmt := top 63
abbrev n_law_plus : List Str := ["_law_x", "_law_y"]
abbrev p_law_plus : List Str := ["_law_x", "_law_y"]
abbrev s_law_minus : Stmt := top 64
abbrev n_law_minus : List Str := ["_law_x", "_law_y"]
abbrev p_law_minus : List Str := ["_law_x", "_law_y"]
abbrev s_law_times : Stmt := top 65
abbrev n_law_times : List Str := ["_law_x", "_law_y"]
abbrev p_law_times : List Str := ["_law_x", "_law_y"]
abbrev s_law_over : Stmt := top 66
abbrev n_law_over : List Str := ["_law_x", "_law_y"]
abbrev p_law_over : List Str := ["_law_x", "_law_y"]
abbrev s_law_total : Stmt := top 67
abbrev n_law_total : List Str := ["_law_row", "_law_found", "_law_x"]
abbrev p_law_total : List Str := ["_law_row"]
abbrev s_law_part : Stmt := top 68
abbrev n_law_part : List Str := ["_law_spring_here", "_law_way", "_law_under"]
abbrev p_law_part : List Str := ["_law_spring_here"]
abbrev s_law_gains : Stmt := top 69
abbrev n_law_gains : List Str := ["_law_spring_here", "_law_pays", "_law_found", "_law_go"]
abbrev p_law_gains : List Str := ["_law_spring_here", "_law_pays"]
abbrev s_law_parts : Stmt := top 70
abbrev n_law_parts : List Str := ["_law_spring_here", "_law_wide", "_law_found", "_law_at", "_law_way"]
abbrev p_law_parts : List Str := ["_law_spring_here", "_law_wide"]
abbrev s_law_chances : Stmt := top 71
abbrev n_law_chances : List Str := ["_law_spring_here", "_law_wide", "_law_parts_here", "_law_at"]
abbrev p_law_chances : List Str := ["_law_spring_here", "_law_wide"]
abbrev s_law_sized : Stmt := top 72
abbrev n_law_sized : List Str := ["_law_spring_here", "_law_counts", "_law_pays", "_law_share", "_law_stands", "_law_many_here", "_law_stand", "_law_go", "_law_chances_here"]
abbrev p_law_sized : List Str := ["_law_spring_here", "_law_counts", "_law_pays"]
abbrev s_law_world : Stmt := top 73
abbrev n_law_world : List Str := ["_law_spring_here", "_law_most_here", "_law_deeds", "_law_pays", "_law_counts", "_law_go"]
abbrev p_law_world : List Str := ["_law_spring_here", "_law_most_here", "_law_deeds", "_law_pays"]
abbrev s_law_sure : Stmt := top 74
abbrev n_law_sure : List Str := ["_law_world_here", "_law_chosen", "_law_found", "_law_stand", "_law_at", "_law_spot"]
abbrev p_law_sure : List Str := ["_law_world_here", "_law_chosen"]
abbrev s_law_ends : Stmt := top 75
abbrev n_law_ends : List Str := ["_law_spring_here", "_law_wide", "_law_parts_here", "_law_at"]
abbrev p_law_ends : List Str := ["_law_spring_here", "_law_wide"]
abbrev s_law_moves : Stmt := top 76
abbrev n_law_moves : List Str := ["_law_world_here", "_law_plan", "_law_found", "_law_stand", "_law_odds", "_law_row", "_law_deed", "_law_odd", "_law_to", "_law_chance"]
abbrev p_law_moves : List Str := ["_law_world_here", "_law_plan"]
abbrev s_law_solved : Stmt := top 77
abbrev n_law_solved : List Str := ["_law_lines", "_law_left", "_law_at", "_law_lead", "_law_spot", "_law_less", "_law_row", "_law_x", "_law_y"]
abbrev p_law_solved : List Str := ["_law_lines"]
abbrev s_law_choices : Stmt := top 78
abbrev n_law_choices : List Str := ["_law_world_here", "_law_found", "_law_stand", "_law_more", "_law_some", "_law_at"]
abbrev p_law_choices : List Str := ["_law_world_here"]
abbrev s_law_leads : Stmt := top 79
abbrev n_law_leads : List Str := ["_law_row", "_law_some", "_law_to"]
abbrev p_law_leads : List Str := ["_law_row", "_law_some"]
abbrev s_law_coming : Stmt := top 80
abbrev n_law_coming : List Str := ["_law_world_here", "_law_ends_here", "_law_plan", "_law_moves_here", "_law_near", "_law_wide", "_law_go", "_law_free", "_law_lines", "_law_at", "_law_line", "_law_found", "_law_row", "_law_to"]
abbrev p_law_coming : List Str := ["_law_world_here", "_law_ends_here", "_law_plan"]
abbrev s_law_has_stay : Stmt := top 81
abbrev n_law_has_stay : List Str := ["_law_stand", "_law_some", "_law_deed", "_law_part_here"]
abbrev p_law_has_stay : List Str := ["_law_stand", "_law_some"]
abbrev s_law_never : Stmt := top 82
abbrev n_law_never : List Str := ["_law_world_here", "_law_ends_here", "_law_some", "_law_go", "_law_at"]
abbrev p_law_never : List Str := ["_law_world_here", "_law_ends_here"]
abbrev s_law_ranks : Stmt := top 83
abbrev n_law_ranks : List Str := ["_law_world_here", "_law_ends_here", "_law_nevers", "_law_found", "_law_at", "_law_go", "_law_known", "_law_behind", "_law_deed", "_law_part_here"]
abbrev p_law_ranks : List Str := ["_law_world_here", "_law_ends_here"]
abbrev s_law_ones : Stmt := top 84
abbrev n_law_ones : List Str := ["_law_world_here", "_law_ends_here", "_law_found", "_law_chosen", "_law_row", "_law_at"]
abbrev p_law_ones : List Str := ["_law_world_here", "_law_ends_here"]
abbrev s_law_right : Stmt := top 85
abbrev n_law_right : List Str := ["_law_spring_here", "_law_most_here", "_law_deeds", "_law_world_here", "_law_ends_here", "_law_ranks_here", "_law_ones_here", "_law_told", "_law_sure_here", "_law_certain", "_law_at", "_law_row"]
abbrev p_law_right : List Str := ["_law_spring_here"]
abbrev s_law : Stmt := top 86
abbrev n_law : List Str := ["_law_script", "_law_lap"]
abbrev p_law : List Str := ["_law_script"]
def k_MOST_DEEDS : PyData := (.int 4)
def k_MOST_PAYS : PyData := (.int 4)
def k_MOST_STANDS : PyData := (.int 8)
def k_ONE : PyData := (.tuple [(.int 1), (.int 1)])
def k_ZERO : PyData := (.tuple [(.int 0), (.int 1)])
/-- what the top has made of the text -/
structure Txt (K : PySem.W.Frag) (mg : Str → Option Value) (ad : Nat → Addr) (fd : Nat → FuncData) : Prop where
  d_is_whole : Fun K "is_whole" "is_whole" s_is_whole (ad 0) (fd 0)
  m_is_whole : mg "is_whole" = some (.ref (ad 0))
  d_is_between : Fun K "is_between" "is_between" s_is_between (ad 1) (fd 1)
  m_is_between : mg "is_between" = some (.ref (ad 1))
  d_is_tuple_of : Fun K "is_tuple_of" "is_tuple_of" s_is_tuple_of (ad 2) (fd 2)
  m_is_tuple_of : mg "is_tuple_of" = some (.ref (ad 2))
  d_is_ratio : Fun K "is_ratio" "is_ratio" s_is_ratio (ad 3) (fd 3)
  m_is_ratio : mg "is_ratio" = some (.ref (ad 3))
  d_is_row : Fun K "is_row" "is_row" s_is_row (ad 4) (fd 4)
  m_is_row : mg "is_row" = some (.ref (ad 4))
  d_ratio : Fun K "ratio" "ratio" s_ratio (ad 5) (fd 5)
  m_ratio : mg "ratio" = some (.ref (ad 5))
  d_plus : Fun K "plus" "plus" s_plus (ad 6) (fd 6)
  m_plus : mg "plus" = some (.ref (ad 6))
  d_minus : Fun K "minus" "minus" s_minus (ad 7) (fd 7)
  m_minus : mg "minus" = some (.ref (ad 7))
  d_times : Fun K "times" "times" s_times (ad 8) (fd 8)
  m_times : mg "times" = some (.ref (ad 8))
  d_over : Fun K "over" "over" s_over (ad 9) (fd 9)
  m_over : mg "over" = some (.ref (ad 9))
  d_is_less : Fun K "is_less" "is_less" s_is_less (ad 10) (fd 10)
  m_is_less : mg "is_less" = some (.ref (ad 10))
  d_total : Fun K "total" "total" s_total (ad 11) (fd 11)
  m_total : mg "total" = some (.ref (ad 11))
  d_less_row : Fun K "less_row" "less_row" s_less_row (ad 12) (fd 12)
  m_less_row : mg "less_row" = some (.ref (ad 12))
  d_answers_of : Fun K "answers_of" "answers_of" s_answers_of (ad 13) (fd 13)
  m_answers_of : mg "answers_of" = some (.ref (ad 13))
  d_are_chances : Fun K "are_chances" "are_chances" s_are_chances (ad 14) (fd 14)
  m_are_chances : mg "are_chances" = some (.ref (ad 14))
  d_is_deed : Fun K "is_deed" "is_deed" s_is_deed (ad 15) (fd 15)
  m_is_deed : mg "is_deed" = some (.ref (ad 15))
  d_is_stand : Fun K "is_stand" "is_stand" s_is_stand (ad 16) (fd 16)
  m_is_stand : mg "is_stand" = some (.ref (ad 16))
  d_is_share : Fun K "is_share" "is_share" s_is_share (ad 17) (fd 17)
  m_is_share : mg "is_share" = some (.ref (ad 17))
  d_is_house_by : Fun K "is_house_by" "is_house_by" s_is_house_by (ad 18) (fd 18)
  m_is_house_by : mg "is_house_by" = some (.ref (ad 18))
  d_check_house : Fun K "check_house" "check_house" s_check_house (ad 19) (fd 19)
  m_check_house : mg "check_house" = some (.ref (ad 19))
  d_wrong_goal : Fun K "wrong_goal" "wrong_goal" s_wrong_goal (ad 20) (fd 20)
  m_wrong_goal : mg "wrong_goal" = some (.ref (ad 20))
  d_led_to : Fun K "led_to" "led_to" s_led_to (ad 21) (fd 21)
  m_led_to : mg "led_to" = some (.ref (ad 21))
  d_mean_behind : Fun K "mean_behind" "mean_behind" s_mean_behind (ad 22) (fd 22)
  m_mean_behind : mg "mean_behind" = some (.ref (ad 22))
  d_reaching : Fun K "reaching" "reaching" s_reaching (ad 23) (fd 23)
  m_reaching : mg "reaching" = some (.ref (ad 23))
  d_coming_by : Fun K "coming_by" "coming_by" s_coming_by (ad 24) (fd 24)
  m_coming_by : mg "coming_by" = some (.ref (ad 24))
  d_better_deed : Fun K "better_deed" "better_deed" s_better_deed (ad 25) (fd 25)
  m_better_deed : mg "better_deed" = some (.ref (ad 25))
  d_greatest_by : Fun K "greatest_by" "greatest_by" s_greatest_by (ad 26) (fd 26)
  m_greatest_by : mg "greatest_by" = some (.ref (ad 26))
  d_range_of : Fun K "range_of" "range_of" s_range_of (ad 27) (fd 27)
  m_range_of : mg "range_of" = some (.ref (ad 27))
  d_staying_deed : Fun K "staying_deed" "staying_deed" s_staying_deed (ad 28) (fd 28)
  m_staying_deed : mg "staying_deed" = some (.ref (ad 28))
  d_staying : Fun K "staying" "staying" s_staying (ad 29) (fd 29)
  m_staying : mg "staying" = some (.ref (ad 29))
  d_worse_deed : Fun K "worse_deed" "worse_deed" s_worse_deed (ad 30) (fd 30)
  m_worse_deed : mg "worse_deed" = some (.ref (ad 30))
  d_least_by : Fun K "least_by" "least_by" s_least_by (ad 31) (fd 31)
  m_least_by : mg "least_by" = some (.ref (ad 31))
  d_meets_all : Fun K "meets_all" "meets_all" s_meets_all (ad 32) (fd 32)
  m_meets_all : mg "meets_all" = some (.ref (ad 32))
  d_ranks_by : Fun K "ranks_by" "ranks_by" s_ranks_by (ad 33) (fd 33)
  m_ranks_by : mg "ranks_by" = some (.ref (ad 33))
  d_check_goals : Fun K "check_goals" "check_goals" s_check_goals (ad 34) (fd 34)
  m_check_goals : mg "check_goals" = some (.ref (ad 34))
  d_greatest_coming : Fun K "greatest_coming" "greatest_coming" s_greatest_coming (ad 35) (fd 35)
  m_greatest_coming : mg "greatest_coming" = some (.ref (ad 35))
  d_least_coming : Fun K "least_coming" "least_coming" s_least_coming (ad 36) (fd 36)
  m_least_coming : mg "least_coming" = some (.ref (ad 36))
  d_ranks_of : Fun K "ranks_of" "ranks_of" s_ranks_of (ad 37) (fd 37)
  m_ranks_of : mg "ranks_of" = some (.ref (ad 37))
  d_stands_of_one : Fun K "stands_of_one" "stands_of_one" s_stands_of_one (ad 38) (fd 38)
  m_stands_of_one : mg "stands_of_one" = some (.ref (ad 38))
  d_sure_stands : Fun K "sure_stands" "sure_stands" s_sure_stands (ad 39) (fd 39)
  m_sure_stands : mg "sure_stands" = some (.ref (ad 39))
  d_certain_stands : Fun K "certain_stands" "certain_stands" s_certain_stands (ad 40) (fd 40)
  m_certain_stands : mg "certain_stands" = some (.ref (ad 40))
  d_law_spring : Fun K "_law_spring" "_law_spring" s_law_spring (ad 41) (fd 41)
  m_law_spring : mg "_law_spring" = some (.ref (ad 41))
  d_law_pick : Fun K "_law_pick" "_law_pick" s_law_pick (ad 42) (fd 42)
  m_law_pick : mg "_law_pick" = some (.ref (ad 42))
  d_law_any_of : Fun K "_law_any_of" "_law_any_of" s_law_any_of (ad 43) (fd 43)
  m_law_any_of : mg "_law_any_of" = some (.ref (ad 43))
  d_law_frac : Fun K "_law_frac" "_law_frac" s_law_frac (ad 44) (fd 44)
  m_law_frac : mg "_law_frac" = some (.ref (ad 44))
  d_law_plus : Fun K "_law_plus" "_law_plus" s_law_plus (ad 45) (fd 45)
  m_law_plus : mg "_law_plus" = some (.ref (ad 45))
  d_law_minus : Fun K "_law_minus" "_law_minus" s_law_minus (ad 46) (fd 46)
  m_law_minus : mg "_law_minus" = some (.ref (ad 46))
  d_law_times : Fun K "_law_times" "_law_times" s_law_times (ad 47) (fd 47)
  m_law_times : mg "_law_times" = some (.ref (ad 47))
  d_law_over : Fun K "_law_over" "_law_over" s_law_over (ad 48) (fd 48)
  m_law_over : mg "_law_over" = some (.ref (ad 48))
  d_law_total : Fun K "_law_total" "_law_total" s_law_total (ad 49) (fd 49)
  m_law_total : mg "_law_total" = some (.ref (ad 49))
  d_law_part : Fun K "_law_part" "_law_part" s_law_part (ad 50) (fd 50)
  m_law_part : mg "_law_part" = some (.ref (ad 50))
  d_law_gains : Fun K "_law_gains" "_law_gains" s_law_gains (ad 51) (fd 51)
  m_law_gains : mg "_law_gains" = some (.ref (ad 51))
  d_law_parts : Fun K "_law_parts" "_law_parts" s_law_parts (ad 52) (fd 52)
  m_law_parts : mg "_law_parts" = some (.ref (ad 52))
  d_law_chances : Fun K "_law_chances" "_law_chances" s_law_chances (ad 53) (fd 53)
  m_law_chances : mg "_law_chances" = some (.ref (ad 53))
  d_law_sized : Fun K "_law_sized" "_law_sized" s_law_sized (ad 54) (fd 54)
  m_law_sized : mg "_law_sized" = some (.ref (ad 54))
  d_law_world : Fun K "_law_world" "_law_world" s_law_world (ad 55) (fd 55)
  m_law_world : mg "_law_world" = some (.ref (ad 55))
  d_law_sure : Fun K "_law_sure" "_law_sure" s_law_sure (ad 56) (fd 56)
  m_law_sure : mg "_law_sure" = some (.ref (ad 56))
  d_law_ends : Fun K "_law_ends" "_law_ends" s_law_ends (ad 57) (fd 57)
  m_law_ends : mg "_law_ends" = some (.ref (ad 57))
  d_law_moves : Fun K "_law_moves" "_law_moves" s_law_moves (ad 58) (fd 58)
  m_law_moves : mg "_law_moves" = some (.ref (ad 58))
  d_law_solved : Fun K "_law_solved" "_law_solved" s_law_solved (ad 59) (fd 59)
  m_law_solved : mg "_law_solved" = some (.ref (ad 59))
  d_law_choices : Fun K "_law_choices" "_law_choices" s_law_choices (ad 60) (fd 60)
  m_law_choices : mg "_law_choices" = some (.ref (ad 60))
  d_law_leads : Fun K "_law_leads" "_law_leads" s_law_leads (ad 61) (fd 61)
  m_law_leads : mg "_law_leads" = some (.ref (ad 61))
  d_law_coming : Fun K "_law_coming" "_law_coming" s_law_coming (ad 62) (fd 62)
  m_law_coming : mg "_law_coming" = some (.ref (ad 62))
  d_law_has_stay : Fun K "_law_has_stay" "_law_has_stay" s_law_has_stay (ad 63) (fd 63)
  m_law_has_stay : mg "_law_has_stay" = some (.ref (ad 63))
  d_law_never : Fun K "_law_never" "_law_never" s_law_never (ad 64) (fd 64)
  m_law_never : mg "_law_never" = some (.ref (ad 64))
  d_law_ranks : Fun K "_law_ranks" "_law_ranks" s_law_ranks (ad 65) (fd 65)
  m_law_ranks : mg "_law_ranks" = some (.ref (ad 65))
  d_law_ones : Fun K "_law_ones" "_law_ones" s_law_ones (ad 66) (fd 66)
  m_law_ones : mg "_law_ones" = some (.ref (ad 66))
  d_law_right : Fun K "_law_right" "_law_right" s_law_right (ad 67) (fd 67)
  m_law_right : mg "_law_right" = some (.ref (ad 67))
  d_law : Fun K "law" "law" s_law (ad 68) (fd 68)
  m_law : mg "law" = some (.ref (ad 68))
  b_abs : mg "abs" = none
  b_all : mg "all" = none
  b_any : mg "any" = none
  b_bool : mg "bool" = none
  b_divmod : mg "divmod" = none
  b_enumerate : mg "enumerate" = none
  b_gcd : mg "gcd" = some (.builtin "math.gcd")
  b_int : mg "int" = none
  b_isinstance : mg "isinstance" = none
  b_len : mg "len" = none
  b_list : mg "list" = none
  b_max : mg "max" = none
  b_min : mg "min" = none
  b_range : mg "range" = none
  b_repr : mg "repr" = none
  b_sorted : mg "sorted" = none
  b_sum : mg "sum" = none
  b_tuple : mg "tuple" = none
  b_zip : mg "zip" = none
  g_MOST_DEEDS : GlK K mg "MOST_DEEDS" k_MOST_DEEDS
  g_MOST_PAYS : GlK K mg "MOST_PAYS" k_MOST_PAYS
  g_MOST_STANDS : GlK K mg "MOST_STANDS" k_MOST_STANDS
  g_ONE : GlK K mg "ONE" k_ONE
  g_ZERO : GlK K mg "ZERO" k_ZERO
noncomputable def m_is_whole : Ms :=
  (mRet (mAnd (m1 (fIsi "int") (mVar 0)) (m1 fNot (m1 (fIsi "bool") (mVar 0)))))
noncomputable def f_is_whole : Fx := run' 1 1 m_is_whole
noncomputable def m_is_between : Ms :=
  (mRet (mAnd (mCall f_is_whole (maCons (mVar 0) maNil)) (mChain gLe gLe (mVar 1) (mVar 0) (mVar 2))))
noncomputable def f_is_between : Fx := run' 3 3 m_is_between
noncomputable def m_is_tuple_of : Ms :=
  (mRet (mAnd (m1 (fIsi "tuple") (mVar 0)) (m2 (fEq false) (mA fLen (maCons (mVar 0) maNil)) (mVar 1))))
noncomputable def f_is_tuple_of : Fx := run' 2 2 m_is_tuple_of
noncomputable def m_is_ratio : Ms :=
  (mSeq (mIfS (tOr2 (tNot2 (bT (mCall f_is_tuple_of (maCons (mVar 0) (maCons (mKon (.int 2)) maNil))))) (tOr2 (tNot2 (bT (mCall f_is_whole (maCons (mIx (mVar 0) (mKon (.int 0))) maNil)))) (tNot2 (bT (mCall f_is_whole (maCons (mIx (mVar 0) (mKon (.int 1))) maNil))))))
    (mRet (mKon (.bool false)))
    mNil)
    (mRet (mAnd (m2 (fI gGt) (mIx (mVar 0) (mKon (.int 1))) (mKon (.int 0))) (m2 (fEq false) (mA fGcd (maCons (mIx (mVar 0) (mKon (.int 0))) (maCons (mIx (mVar 0) (mKon (.int 1))) maNil))) (mKon (.int 1))))))
noncomputable def f_is_ratio : Fx := run' 1 1 m_is_ratio
noncomputable def m_is_row : Ms :=
  (mRet (mAnd (mCall f_is_tuple_of (maCons (mVar 0) (maCons (mVar 1) maNil))) (mA fAll (maCons (mLc (mSeqI (mVar 0)) [2] (gN 2) mYes (mCall f_is_ratio (maCons (mVar 2) maNil))) maNil))))
noncomputable def f_is_row : Fx := run' 2 3 m_is_row
noncomputable def m_ratio : Ms :=
  (mSeq (mSet 2 (mIf (bT (m2 (fI gGt) (mVar 1) (mKon (.int 0)))) (mA fGcd (maCons (mVar 0) (maCons (mVar 1) maNil))) (m1 fNeg (mA fGcd (maCons (mVar 0) (maCons (mVar 1) maNil))))))
    (mRet (mA fTup (maCons (m2 (fI gFdiv) (mVar 0) (mVar 2)) (maCons (m2 (fI gFdiv) (mVar 1) (mVar 2)) maNil)))))
noncomputable def f_ratio : Fx := run' 2 3 m_ratio
noncomputable def m_plus : Ms :=
  (mRet (mCall f_ratio (maCons (m2 fAdd (m2 fMul (mIx (mVar 0) (mKon (.int 0))) (mIx (mVar 1) (mKon (.int 1)))) (m2 fMul (mIx (mVar 1) (mKon (.int 0))) (mIx (mVar 0) (mKon (.int 1))))) (maCons (m2 fMul (mIx (mVar 0) (mKon (.int 1))) (mIx (mVar 1) (mKon (.int 1)))) maNil))))
noncomputable def f_plus : Fx := run' 2 2 m_plus
noncomputable def m_minus : Ms :=
  (mRet (mCall f_ratio (maCons (m2 (fI gMns) (m2 fMul (mIx (mVar 0) (mKon (.int 0))) (mIx (mVar 1) (mKon (.int 1)))) (m2 fMul (mIx (mVar 1) (mKon (.int 0))) (mIx (mVar 0) (mKon (.int 1))))) (maCons (m2 fMul (mIx (mVar 0) (mKon (.int 1))) (mIx (mVar 1) (mKon (.int 1)))) maNil))))
noncomputable def f_minus : Fx := run' 2 2 m_minus
noncomputable def m_times : Ms :=
  (mRet (mCall f_ratio (maCons (m2 fMul (mIx (mVar 0) (mKon (.int 0))) (mIx (mVar 1) (mKon (.int 0)))) (maCons (m2 fMul (mIx (mVar 0) (mKon (.int 1))) (mIx (mVar 1) (mKon (.int 1)))) maNil))))
noncomputable def f_times : Fx := run' 2 2 m_times
noncomputable def m_over : Ms :=
  (mRet (mCall f_ratio (maCons (m2 fMul (mIx (mVar 0) (mKon (.int 0))) (mIx (mVar 1) (mKon (.int 1)))) (maCons (m2 fMul (mIx (mVar 0) (mKon (.int 1))) (mIx (mVar 1) (mKon (.int 0)))) maNil))))
noncomputable def f_over : Fx := run' 2 2 m_over
noncomputable def m_is_less : Ms :=
  (mRet (m2 (fI gLt) (m2 fMul (mIx (mVar 0) (mKon (.int 0))) (mIx (mVar 1) (mKon (.int 1)))) (m2 fMul (mIx (mVar 1) (mKon (.int 0))) (mIx (mVar 0) (mKon (.int 1))))))
noncomputable def f_is_less : Fx := run' 2 2 m_is_less
noncomputable def m_total : Ms :=
  (mSeq (mSet 1 (mKon k_ZERO))
    (mSeq (mFor (mSeqI (mVar 0)) (gN 2)
    (mSet 1 (mCall f_plus (maCons (mVar 1) (maCons (mVar 2) maNil)))))
    (mRetV 1)))
noncomputable def f_total : Fx := run' 1 3 m_total
noncomputable def m_less_row : Ms :=
  (mRet (mLc (mArgI zipQ2 (maCons (mVar 0) (maCons (mVar 1) maNil))) [3, 4] (gT 2 (gsCons (gN 3) (gsCons (gN 4) gsNil))) mYes (mCall f_minus (maCons (mVar 3) (maCons (mCall f_times (maCons (mVar 2) (maCons (mVar 4) maNil))) maNil)))))
noncomputable def f_less_row : Fx := run' 3 5 m_less_row
noncomputable def m_answers_of : Ms :=
  (mSeq (mSet 2 (mLc (mArgI zipQ2 (maCons (mVar 0) (maCons (mVar 1) maNil))) [7, 8] (gT 2 (gsCons (gN 7) (gsCons (gN 8) gsNil))) mYes (m2 fAdd (mA fLstOf (maCons (mVar 7) maNil)) (mA fLstOf (maCons (mVar 8) maNil)))))
    (mSeq (mSet 3 (mA fLen (maCons (mVar 0) maNil)))
    (mSeq (mFor (mArgI range1 (maCons (mVar 3) maNil)) (gN 4)
    (mSeq (mSet 5 (mIx (mLc (mArgI range2 (maCons (mVar 4) (maCons (mVar 3) maNil))) [9] (gN 9) (bT (m2 (fEq true) (mIx (mIx (mVar 2) (mVar 9)) (mVar 4)) (mKon k_ZERO))) (mVar 9)) (mKon (.int 0))))
    (mSeq (mSwap 2 (mVar 4) (mVar 5) (mA fTup (maCons (mIx (mVar 2) (mVar 5)) (maCons (mIx (mVar 2) (mVar 4)) maNil))))
    (mSeq (mSet 6 (mLc (mSeqI (mIx (mVar 2) (mVar 4))) [10] (gN 10) mYes (mCall f_over (maCons (mVar 10) (maCons (mIx (mIx (mVar 2) (mVar 4)) (mVar 4)) maNil)))))
    (mSeq (mFrz [2, 6] (mSet 2 (mLc (mSeqI (mVar 2)) [7] (gN 7) mYes (mCall f_less_row (maCons (mVar 7) (maCons (mVar 6) (maCons (mIx (mVar 7) (mVar 4)) maNil)))))))
    (mFrz [6] (mPut 2 (mVar 4) (mVar 6))))))))
    (mFrz [2] (mRet (mLc (mSeqI (mVar 2)) [7] (gN 7) mYes (mA fTupOf (maCons (mSl (mVar 7) (moSome (mVar 3)) moNone) maNil))))))))
noncomputable def f_answers_of : Fx := run' 2 11 m_answers_of
noncomputable def m_are_chances : Ms :=
  (mSeq (mIfS (tOr2 (tNot2 (bT (m1 (fIsi "tuple") (mVar 0)))) (tNot2 (bT (mA fAll (maCons (mLc (mSeqI (mVar 0)) [3] (gN 3) mYes (mCall f_is_tuple_of (maCons (mVar 3) (maCons (mKon (.int 2)) maNil)))) maNil)))))
    (mRet (mKon (.bool false)))
    mNil)
    (mSeq (mIfS (tNot2 (bT (mA fAll (maCons (mLc (mSeqI (mVar 0)) [4, 5] (gT 2 (gsCons (gN 4) (gsCons (gN 5) gsNil))) mYes (mAnd (mCall f_is_between (maCons (mVar 4) (maCons (mKon (.int 0)) (maCons (m2 (fI gMns) (mVar 1) (mKon (.int 1))) maNil)))) (mAnd (mCall f_is_ratio (maCons (mVar 5) maNil)) (m2 (fI gGt) (mIx (mVar 5) (mKon (.int 0))) (mKon (.int 0)))))) maNil))))
    (mRet (mKon (.bool false)))
    mNil)
    (mSeq (mSet 2 (mLc (mSeqI (mVar 0)) [4, 6] (gT 2 (gsCons (gN 4) (gsCons (gN 6) gsNil))) mYes (mVar 4)))
    (mFrz [2] (mRet (mAnd (mA fAll (maCons (mLc (mArgI zipQ2 (maCons (mVar 2) (maCons (mSl (mVar 2) (moSome (mKon (.int 1))) moNone) maNil))) [7, 8] (gT 2 (gsCons (gN 7) (gsCons (gN 8) gsNil))) mYes (m2 (fI gLt) (mVar 7) (mVar 8))) maNil)) (m2 (fEq false) (mCall f_total (maCons (mLc (mSeqI (mVar 0)) [6, 5] (gT 2 (gsCons (gN 6) (gsCons (gN 5) gsNil))) mYes (mVar 5)) maNil)) (mKon k_ONE))))))))
noncomputable def f_are_chances : Fx := run' 2 9 m_are_chances
noncomputable def m_is_deed : Ms :=
  (mRet (mAnd (mCall f_is_tuple_of (maCons (mVar 0) (maCons (mKon (.int 2)) maNil))) (mAnd (mCall f_are_chances (maCons (mIx (mVar 0) (mKon (.int 0))) (maCons (mVar 2) maNil))) (mCall f_is_row (maCons (mIx (mVar 0) (mKon (.int 1))) (maCons (mVar 1) maNil))))))
noncomputable def f_is_deed : Fx := run' 3 3 m_is_deed
noncomputable def m_is_stand : Ms :=
  (mSeq (mIfS (tOr2 (tNot2 (bT (m1 (fIsi "tuple") (mVar 0)))) (tNot2 (bT (mCall f_is_between (maCons (mA fLen (maCons (mVar 0) maNil)) (maCons (mKon (.int 1)) (maCons (mKon k_MOST_DEEDS) maNil)))))))
    (mRet (mKon (.bool false)))
    mNil)
    (mRet (mA fAll (maCons (mLc (mSeqI (mVar 0)) [3] (gN 3) mYes (mCall f_is_deed (maCons (mVar 3) (maCons (mVar 1) (maCons (mVar 2) maNil))))) maNil))))
noncomputable def f_is_stand : Fx := run' 3 4 m_is_stand
noncomputable def m_is_share : Ms :=
  (mRet (mAnd (mCall f_is_ratio (maCons (mVar 0) maNil)) (mChain gLe gLt (mKon (.int 0)) (mIx (mVar 0) (mKon (.int 0))) (mIx (mVar 0) (mKon (.int 1))))))
noncomputable def f_is_share : Fx := run' 1 1 m_is_share
noncomputable def m_is_house_by : Ms :=
  (mSeq (mIfS (tOr2 (tNot2 (bT (mCall f_is_tuple_of (maCons (mVar 0) (maCons (mKon (.int 3)) maNil))))) (tOr2 (tNot2 (bT (mCall f_is_share (maCons (mIx (mVar 0) (mKon (.int 0))) maNil)))) (tNot2 (bT (mCall f_is_between (maCons (mIx (mVar 0) (mKon (.int 1))) (maCons (mKon (.int 1)) (maCons (mKon k_MOST_PAYS) maNil))))))))
    (mRet (mKon (.bool false)))
    mNil)
    (mSeq (mSet 1 (mIx (mVar 0) (mKon (.int 2))))
    (mSeq (mIfS (tOr2 (tNot2 (bT (m1 (fIsi "tuple") (mVar 1)))) (tNot2 (bT (mCall f_is_between (maCons (mA fLen (maCons (mVar 1) maNil)) (maCons (mKon (.int 1)) (maCons (mKon k_MOST_STANDS) maNil)))))))
    (mRet (mKon (.bool false)))
    mNil)
    (mRet (mA fAll (maCons (mLc (mSeqI (mVar 1)) [2] (gN 2) mYes (mCall f_is_stand (maCons (mVar 2) (maCons (mIx (mVar 0) (mKon (.int 1))) (maCons (mA fLen (maCons (mVar 1) maNil)) maNil))))) maNil))))))
noncomputable def f_is_house_by : Fx := run' 1 3 m_is_house_by
noncomputable def m_check_house : Ms :=
  (mIfS (tNot2 (bT (mCall f_is_house_by (maCons (mVar 0) maNil))))
    mNever
    mNil)
noncomputable def f_check_house : Fx := run' 1 1 m_check_house
noncomputable def m_wrong_goal : Ms :=
  (mSeq (mFor (mArgI enum1 (maCons (mVar 1) maNil)) (gT 2 (gsCons (gN 2) (gsCons (gN 3) gsNil)))
    (mSeq (mIfS (tOr2 (tNot2 (bT (m1 (fIsi "int") (mVar 3)))) (tOr2 (bT (m1 (fIsi "bool") (mVar 3))) (tNot2 (bT (mChain gLe gLt (mKon (.int 0)) (mVar 3) (mA fLen (maCons (mIx (mVar 0) (mKon (.int 2))) maNil)))))))
    (mRet (mA fLst (maCons (mVar 2) maNil)))
    mNil)
    (mIfS (tAnd2 (bT (m2 (fI gGt) (mVar 2) (mKon (.int 0)))) (bT (m2 (fI gLe) (mVar 3) (mIx (mVar 1) (m2 (fI gMns) (mVar 2) (mKon (.int 1)))))))
    (mRet (mA fLst (maCons (mVar 2) maNil)))
    mNil)))
    (mRet (mA fLst maNil)))
noncomputable def f_wrong_goal : Fx := run' 2 4 m_wrong_goal
noncomputable def m_led_to : Ms :=
  (mRet (mLc (mSeqI (mIx (mIx (mIx (mIx (mVar 0) (mKon (.int 2))) (mVar 1)) (mVar 2)) (mKon (.int 0)))) [3, 4] (gT 2 (gsCons (gN 3) (gsCons (gN 4) gsNil))) mYes (mVar 3)))
noncomputable def f_led_to : Fx := run' 3 5 m_led_to
noncomputable def m_mean_behind : Ms :=
  (mRet (mCall f_total (maCons (mLc (mSeqI (mIx (mIx (mIx (mIx (mVar 0) (mKon (.int 2))) (mVar 2)) (mVar 3)) (mKon (.int 0)))) [4, 5] (gT 2 (gsCons (gN 4) (gsCons (gN 5) gsNil))) mYes (mCall f_times (maCons (mVar 5) (maCons (mIx (mVar 1) (mVar 4)) maNil)))) maNil)))
noncomputable def f_mean_behind : Fx := run' 4 6 m_mean_behind
noncomputable def m_reaching : Ms :=
  (mSeq (mSet 3 (mA fLstOf (maCons (mVar 1) maNil)))
    (mSeq (mSet 4 (mKon (.bool true)))
    (mSeq (mWhile (bT (mVar 4))
    (mSeq (mSet 5 (mA fLst maNil))
    (mSeq (mFor (mArgI enum1 (maCons (mVar 2) maNil)) (gT 2 (gsCons (gN 6) (gsCons (gN 7) gsNil)))
    (mIfS (tAnd2 (bT (m2 (fIn true) (mVar 6) (mVar 3))) (bT (mA fAny (maCons (mLc (mSeqI (mCall f_led_to (maCons (mVar 0) (maCons (mVar 6) (maCons (mVar 7) maNil))))) [8] (gN 8) mYes (m2 (fIn false) (mVar 8) (mVar 3))) maNil))))
    (mApp 5 (mVar 6))
    mNil))
    (mSeq (mSet 3 (m2 fAdd (mVar 3) (mVar 5)))
    (mSet 4 (m2 (fEq true) (mVar 5) (mA fLst maNil)))))))
    (mRet (mA fSorted (maCons (mVar 3) maNil))))))
noncomputable def f_reaching : Fx := run' 3 9 m_reaching
noncomputable def m_coming_by : Ms :=
  (mSeq (mSet 3 (mLc (mSeqI (mCall f_reaching (maCons (mVar 0) (maCons (mVar 1) (maCons (mVar 2) maNil))))) [6] (gN 6) (bT (m2 (fIn true) (mVar 6) (mVar 1))) (mVar 6)))
    (mSeq (mPar2f 4 5 (maCons (mA fLst maNil) (maCons (mA fLst maNil) maNil)))
    (mSeq (mFrz [3] (mFor (mSeqI (mVar 3)) (gN 6)
    (mSeq (mSet 7 (mDc (mSeqI (mIx (mIx (mIx (mIx (mVar 0) (mKon (.int 2))) (mVar 6)) (mIx (mVar 2) (mVar 6))) (mKon (.int 0)))) [10, 11] (gT 2 (gsCons (gN 10) (gsCons (gN 11) gsNil))) mYes (mVar 10) (mVar 11)))
    (mSeq (mFrz [3] (mSet 8 (mLc (mSeqI (mVar 3)) [12] (gN 12) mYes (mCall f_minus (maCons (mIf (bT (m2 (fEq false) (mVar 12) (mVar 6))) (mKon k_ONE) (mKon k_ZERO)) (maCons (m3 fGet (mVar 7) (mVar 12) (mKon k_ZERO)) maNil))))))
    (mSeq (mFrz [8] (mApp 4 (mVar 8)))
    (mApp 5 (mA fTup (maCons (mCall f_total (maCons (mLc (mSeqI (mVar 1)) [10] (gN 10) mYes (m3 fGet (mVar 7) (mVar 10) (mKon k_ZERO))) maNil)) maNil))))))))
    (mSeq (mSet 9 (mLc (mArgI range1 (maCons (mA fLen (maCons (mIx (mVar 0) (mKon (.int 2))) maNil)) maNil)) [6] (gN 6) mYes (mIf (bT (m2 (fIn false) (mVar 6) (mVar 1))) (mKon k_ONE) (mKon k_ZERO))))
    (mSeq (mFrz [3, 4, 5] (mFor (mArgI zipQ2 (maCons (mVar 3) (maCons (mCall f_answers_of (maCons (mVar 4) (maCons (mVar 5) maNil))) maNil))) (gT 2 (gsCons (gN 6) (gsCons (gN 8) gsNil)))
    (mPut 9 (mVar 6) (mIx (mVar 8) (mKon (.int 0))))))
    (mRet (mA fTupOf (maCons (mVar 9) maNil))))))))
noncomputable def f_coming_by : Fx := run' 3 13 m_coming_by
noncomputable def m_better_deed : Ms :=
  (mSeq (mPar 4 5 (maCons (mVar 3) (maCons (mIx (mVar 1) (mVar 2)) maNil)))
    (mSeq (mFor (mArgI range1 (maCons (mA fLen (maCons (mIx (mIx (mVar 0) (mKon (.int 2))) (mVar 2)) maNil)) maNil)) (gN 6)
    (mSeq (mSet 7 (mCall f_mean_behind (maCons (mVar 0) (maCons (mVar 1) (maCons (mVar 2) (maCons (mVar 6) maNil))))))
    (mIfS (bT (mCall f_is_less (maCons (mVar 5) (maCons (mVar 7) maNil))))
    (mPar 4 5 (maCons (mVar 6) (maCons (mVar 7) maNil)))
    mNil)))
    (mRetV 4)))
noncomputable def f_better_deed : Fx := run' 4 8 m_better_deed
noncomputable def m_greatest_by : Ms :=
  (mSeq (mPar 2 3 (maCons (mA fTup maNil) (maCons (m2 fMul (mA fTup (maCons (mKon (.int 0)) maNil)) (mA fLen (maCons (mIx (mVar 0) (mKon (.int 2))) maNil))) maNil)))
    (mSeq (mWhile (bT (m2 (fEq true) (mVar 3) (mVar 2)))
    (mSeq (mSet 2 (mVar 3))
    (mSeq (mSet 4 (mCall f_coming_by (maCons (mVar 0) (maCons (mVar 1) (maCons (mVar 2) maNil)))))
    (mSet 3 (mA fTupOf (maCons (mLc (mArgI enum1 (maCons (mVar 2) maNil)) [5, 6] (gT 2 (gsCons (gN 5) (gsCons (gN 6) gsNil))) mYes (mIf (bT (m2 (fIn false) (mVar 5) (mVar 1))) (mVar 6) (mCall f_better_deed (maCons (mVar 0) (maCons (mVar 4) (maCons (mVar 5) (maCons (mVar 6) maNil))))))) maNil))))))
    (mRet (mA fTup (maCons (mVar 4) (maCons (mVar 2) maNil))))))
noncomputable def f_greatest_by : Fx := run' 2 7 m_greatest_by
noncomputable def m_range_of : Ms :=
  (mRet (m1 fLrg (mA fLen (maCons (mIx (mIx (mVar 0) (mKon (.int 2))) (mVar 1)) maNil))))
noncomputable def f_range_of : Fx := run' 2 2 m_range_of
noncomputable def m_staying_deed : Ms :=
  (mSeq (mSet 3 (mCall f_range_of (maCons (mVar 0) (maCons (mVar 2) maNil))))
    (mFrz [3] (mRet (mSl (mLc (mSeqI (mVar 3)) [4] (gN 4) (bT (mA fAll (maCons (mLc (mSeqI (mCall f_led_to (maCons (mVar 0) (maCons (mVar 2) (maCons (mVar 4) maNil))))) [5] (gN 5) mYes (m2 (fIn false) (mVar 5) (mVar 1))) maNil))) (mVar 4)) moNone (moSome (mKon (.int 1)))))))
noncomputable def f_staying_deed : Fx := run' 3 6 m_staying_deed
noncomputable def m_staying : Ms :=
  (mSeq (mSet 2 (mLc (mArgI range1 (maCons (mA fLen (maCons (mIx (mVar 0) (mKon (.int 2))) maNil)) maNil)) [4] (gN 4) (bT (m2 (fIn true) (mVar 4) (mVar 1))) (mVar 4)))
    (mSeq (mFrz [2] (mSet 3 (mLc (mSeqI (mVar 2)) [4] (gN 4) (bT (m2 (fEq true) (mCall f_staying_deed (maCons (mVar 0) (maCons (mVar 2) (maCons (mVar 4) maNil)))) (mA fLst maNil))) (mVar 4))))
    (mSeq (mWhile (bT (m2 (fEq true) (mVar 3) (mVar 2)))
    (mSeq (mFrz [3] (mSet 2 (mVar 3)))
    (mFrz [2] (mSet 3 (mLc (mSeqI (mVar 2)) [4] (gN 4) (bT (m2 (fEq true) (mCall f_staying_deed (maCons (mVar 0) (maCons (mVar 2) (maCons (mVar 4) maNil)))) (mA fLst maNil))) (mVar 4))))))
    (mRetV 2))))
noncomputable def f_staying : Fx := run' 2 5 m_staying
noncomputable def m_worse_deed : Ms :=
  (mSeq (mPar 4 5 (maCons (mVar 3) (maCons (mIx (mVar 1) (mVar 2)) maNil)))
    (mSeq (mFor (mSeqI (mCall f_range_of (maCons (mVar 0) (maCons (mVar 2) maNil)))) (gN 6)
    (mSeq (mSet 7 (mCall f_mean_behind (maCons (mVar 0) (maCons (mVar 1) (maCons (mVar 2) (maCons (mVar 6) maNil))))))
    (mIfS (bT (mCall f_is_less (maCons (mVar 7) (maCons (mVar 5) maNil))))
    (mPar 4 5 (maCons (mVar 6) (maCons (mVar 7) maNil)))
    mNil)))
    (mRetV 4)))
noncomputable def f_worse_deed : Fx := run' 4 8 m_worse_deed
noncomputable def m_least_by : Ms :=
  (mSeq (mSet 2 (mCall f_staying (maCons (mVar 0) (maCons (mVar 1) maNil))))
    (mSeq (mFrz [2] (mSet 3 (mDc (mSeqI (mVar 2)) [7] (gN 7) mYes (mVar 7) (mIx (mCall f_staying_deed (maCons (mVar 0) (maCons (mVar 2) (maCons (mVar 7) maNil)))) (mKon (.int 0))))))
    (mSeq (mPar 4 5 (maCons (mA fTup maNil) (maCons (mA fTupOf (maCons (mLc (mArgI range1 (maCons (mA fLen (maCons (mIx (mVar 0) (mKon (.int 2))) maNil)) maNil)) [7] (gN 7) mYes (m3 fGet (mVar 3) (mVar 7) (mKon (.int 0)))) maNil)) maNil)))
    (mSeq (mWhile (bT (m2 (fEq true) (mVar 5) (mVar 4)))
    (mSeq (mSet 4 (mVar 5))
    (mSeq (mSet 6 (mCall f_coming_by (maCons (mVar 0) (maCons (mVar 1) (maCons (mVar 4) maNil)))))
    (mSet 5 (mA fTupOf (maCons (mLc (mArgI enum1 (maCons (mVar 4) maNil)) [7, 8] (gT 2 (gsCons (gN 7) (gsCons (gN 8) gsNil))) mYes (mIf (tOr2 (bT (m2 (fIn false) (mVar 7) (mVar 1))) (bT (m2 (fIn false) (mVar 7) (mVar 2)))) (mVar 8) (mCall f_worse_deed (maCons (mVar 0) (maCons (mVar 6) (maCons (mVar 7) (maCons (mVar 8) maNil))))))) maNil))))))
    (mRet (mA fTup (maCons (mVar 6) (maCons (mVar 4) maNil))))))))
noncomputable def f_least_by : Fx := run' 2 9 m_least_by
noncomputable def m_meets_all : Ms :=
  (mRet (mA fAll (maCons (mLc (mSeqI (mCall f_range_of (maCons (mVar 0) (maCons (mVar 2) maNil)))) [3] (gN 3) mYes (mA fAny (maCons (mLc (mSeqI (mCall f_led_to (maCons (mVar 0) (maCons (mVar 2) (maCons (mVar 3) maNil))))) [4] (gN 4) mYes (m2 (fInM false) (mVar 4) (mVar 1))) maNil))) maNil)))
noncomputable def f_meets_all : Fx := run' 3 5 m_meets_all
noncomputable def m_ranks_by : Ms :=
  (mSeq (mSetDc 2 (mSeqI (m2 fCat (mA fLstOf (maCons (mVar 1) maNil)) (mCall f_staying (maCons (mVar 0) (maCons (mVar 1) maNil))))) [5] (gN 5) mYes (mVar 5) (mKon (.int 0)))
    (mSeq (mSet 3 (mKon (.int 0)))
    (mSeq (mWhile (bT (m2 (fI gLt) (mA fLenM (maCons (mVar 2) maNil)) (mA fLen (maCons (mIx (mVar 0) (mKon (.int 2))) maNil))))
    (mSeq (mSet 3 (m2 fAdd (mVar 3) (mKon (.int 1))))
    (mSeq (mSet 4 (mA fLst maNil))
    (mSeq (mFor (mArgI range1 (maCons (mA fLen (maCons (mIx (mVar 0) (mKon (.int 2))) maNil)) maNil)) (gN 5)
    (mIfS (tAnd2 (bT (m2 (fInM true) (mVar 5) (mVar 2))) (bT (mCallD f_meets_all (maCons (mVar 0) (maCons (mVar 2) (maCons (mVar 5) maNil))))))
    (mApp 4 (mVar 5))
    mNil))
    (mFrz [4] (mFor (mSeqI (mVar 4)) (gN 5)
    (mPutM 2 (mVar 5) (mVar 3))))))))
    (mRet (mA fTupOf (maCons (mLc (mArgI range1 (maCons (mA fLen (maCons (mIx (mVar 0) (mKon (.int 2))) maNil)) maNil)) [5] (gN 5) mYes (m2 fIxM (mVar 2) (mVar 5))) maNil))))))
noncomputable def f_ranks_by : Fx := run' 2 6 m_ranks_by
noncomputable def m_check_goals : Ms :=
  (mSeq (mIfS (tOr2 (tNot2 (bT (m1 (fIsi "tuple") (mVar 1)))) (bT (m2 (fEqE false) (mVar 1) (mA fTup maNil))))
    mNever
    mNil)
    (mFor (mSeqI (mCall f_wrong_goal (maCons (mVar 0) (maCons (mVar 1) maNil)))) (gN 2)
    mNever))
noncomputable def f_check_goals : Fx := run' 2 3 m_check_goals
noncomputable def m_greatest_coming : Ms :=
  (mSeq (mDrop (mCall f_check_house (maCons (mVar 0) maNil)))
    (mSeq (mDrop (mCall f_check_goals (maCons (mVar 0) (maCons (mVar 1) maNil))))
    (mRet (mCall f_greatest_by (maCons (mVar 0) (maCons (mVar 1) maNil))))))
noncomputable def f_greatest_coming : Fx := run' 2 2 m_greatest_coming
noncomputable def m_least_coming : Ms :=
  (mSeq (mDrop (mCall f_check_house (maCons (mVar 0) maNil)))
    (mSeq (mDrop (mCall f_check_goals (maCons (mVar 0) (maCons (mVar 1) maNil))))
    (mRet (mCall f_least_by (maCons (mVar 0) (maCons (mVar 1) maNil))))))
noncomputable def f_least_coming : Fx := run' 2 2 m_least_coming
noncomputable def m_ranks_of : Ms :=
  (mSeq (mDrop (mCall f_check_house (maCons (mVar 0) maNil)))
    (mSeq (mDrop (mCall f_check_goals (maCons (mVar 0) (maCons (mVar 1) maNil))))
    (mRet (mCall f_ranks_by (maCons (mVar 0) (maCons (mVar 1) maNil))))))
noncomputable def f_ranks_of : Fx := run' 2 2 m_ranks_of
noncomputable def m_stands_of_one : Ms :=
  (mRet (mA fTupOf (maCons (mLc (mArgI enum1 (maCons (mVar 0) maNil)) [1, 2] (gT 2 (gsCons (gN 1) (gsCons (gN 2) gsNil))) (bT (m2 (fEq false) (mVar 2) (mKon k_ONE))) (mVar 1)) maNil)))
noncomputable def f_stands_of_one : Fx := run' 1 3 m_stands_of_one
noncomputable def m_sure_stands : Ms :=
  (mRet (mCall f_stands_of_one (maCons (mIx (mCall f_greatest_coming (maCons (mVar 0) (maCons (mVar 1) maNil))) (mKon (.int 0))) maNil)))
noncomputable def f_sure_stands : Fx := run' 2 2 m_sure_stands
noncomputable def m_certain_stands : Ms :=
  (mRet (mCall f_stands_of_one (maCons (mIx (mCall f_least_coming (maCons (mVar 0) (maCons (mVar 1) maNil))) (mKon (.int 0))) maNil)))
noncomputable def f_certain_stands : Fx := run' 2 2 m_certain_stands
noncomputable def m_law_spring : Ms :=
  (mSeq (mSet 2 (m2 fAdd (mKon (.int 61823)) (m2 fMul (mKon (.int 9973)) (mVar 1))))
    (mSeq (mFor (mSeqI (mSl (mVar 0) moNone (moSome (mKon (.int 9))))) (gN 3)
    (mSet 2 (m2 (fI gMod) (mA fInt (maCons (m2 fAdd (m2 fAdd (m2 fMul (mVar 2) (mKon (.int 52711))) (m2 fMul (m2 (fI gMod) (mA fInt (maCons (mVar 3) maNil)) (mKon (.int 2147483579))) (mKon (.int 5)))) (mKon (.int 23))) maNil)) (mKon (.int 2147483579)))))
    (mSeq (mSet 4 (mIf (bT (m2 (fI gLt) (mVar 1) (mA fLen (maCons (mVar 0) maNil)))) (mA fInt (maCons (mIx (mVar 0) (mVar 1)) maNil)) (mKon (.int 0))))
    (mSeq (mSet 2 (m2 (fI gMod) (mA fInt (maCons (m2 fAdd (m2 fAdd (m2 fMul (mVar 2) (mKon (.int 41))) (m2 fMul (m2 (fI gMod) (mA fInt (maCons (mVar 4) maNil)) (mKon (.int 2147483579))) (mKon (.int 30103)))) (mKon (.int 7))) maNil)) (mKon (.int 2147483579))))
    (mRet (mA fLst (maCons (mIf (tOr2 (bT (m2 (fI gLt) (mVar 4) (mKon (.int 0)))) (bT (m2 (fI gGe) (mVar 4) (m2 (fI gPow) (mKon (.int 10)) (mKon (.int 15)))))) (mA fAbs (maCons (mVar 4) maNil)) (mKon (.int 0))) (maCons (mVar 2) (maCons (mKon (.int 0)) maNil)))))))))
noncomputable def f_law_spring : Fx := run' 2 5 m_law_spring
noncomputable def m_law_pick : Ms :=
  (mSeq (mIfS (bT (m2 (fI gGt) (mIx (mVar 0) (mKon (.int 0))) (mKon (.int 0))))
    (mSeq (mPair 0 (mKon (.int 0)) 2 (mA fDivmod (maCons (mIx (mVar 0) (mKon (.int 0))) (maCons (mVar 1) maNil))))
    (mRetV 2))
    mNil)
    (mSeq (mPut 0 (mKon (.int 2)) (m2 fAdd (mIx (mVar 0) (mKon (.int 2))) (mKon (.int 1))))
    (mSeq (mSet 3 (m2 (fI gMod) (mA fInt (maCons (m2 fAdd (m2 fMul (mIx (mVar 0) (mKon (.int 1))) (mKon (.int 40692))) (m2 fMul (mKon (.int 15013)) (mIx (mVar 0) (mKon (.int 2))))) maNil)) (mKon (.int 2147483579))))
    (mSeq (mPut 0 (mKon (.int 1)) (m2 (fI gMod) (mA fInt (maCons (m2 fAdd (m2 fMul (mVar 3) (m2 fAdd (m2 (fI gMod) (mA fInt (maCons (mVar 3) maNil)) (mKon (.int 6007))) (mKon (.int 20011)))) (mIx (mVar 0) (mKon (.int 2)))) maNil)) (mKon (.int 2147483579))))
    (mRet (m2 (fI gMod) (mA fInt (maCons (m2 (fI gFdiv) (mIx (mVar 0) (mKon (.int 1))) (mKon (.int 1013))) maNil)) (mVar 1)))))))
noncomputable def f_law_pick : Fx := run' 2 4 m_law_pick
noncomputable def m_law_any_of : Ms :=
  (mRet (mIx (mVar 1) (mCall f_law_pick (maCons (mVar 0) (maCons (mA fLen (maCons (mVar 1) maNil)) maNil)))))
noncomputable def f_law_any_of : Fx := run' 2 2 m_law_any_of
noncomputable def m_law_frac : Ms :=
  (mSeq (mPar 2 3 (maCons (mA fAbs (maCons (mVar 0) maNil)) (maCons (mA fAbs (maCons (mVar 1) maNil)) maNil)))
    (mSeq (mWhile (bT (m2 (fI gGt) (mVar 3) (mKon (.int 0))))
    (mPar 2 3 (maCons (mVar 3) (maCons (m2 (fI gMod) (mA fInt (maCons (mVar 2) maNil)) (mVar 3)) maNil))))
    (mRet (mIf (bT (m2 (fI gGt) (mVar 1) (mKon (.int 0)))) (mA fTup (maCons (m2 (fI gFdiv) (mVar 0) (mVar 2)) (maCons (m2 (fI gFdiv) (mVar 1) (mVar 2)) maNil))) (mA fTup (maCons (m2 (fI gMns) (mKon (.int 0)) (m2 (fI gFdiv) (mVar 0) (mVar 2))) (maCons (m2 (fI gMns) (mKon (.int 0)) (m2 (fI gFdiv) (mVar 1) (mVar 2))) maNil)))))))
noncomputable def f_law_frac : Fx := run' 2 4 m_law_frac
noncomputable def m_law_plus : Ms :=
  (mRet (mCall f_law_frac (maCons (m2 fAdd (m2 fMul (mIx (mVar 0) (mKon (.int 0))) (mIx (mVar 1) (mKon (.int 1)))) (m2 fMul (mIx (mVar 1) (mKon (.int 0))) (mIx (mVar 0) (mKon (.int 1))))) (maCons (m2 fMul (mIx (mVar 0) (mKon (.int 1))) (mIx (mVar 1) (mKon (.int 1)))) maNil))))
noncomputable def f_law_plus : Fx := run' 2 2 m_law_plus
noncomputable def m_law_minus : Ms :=
  (mRet (mCall f_law_frac (maCons (m2 (fI gMns) (m2 fMul (mIx (mVar 0) (mKon (.int 0))) (mIx (mVar 1) (mKon (.int 1)))) (m2 fMul (mIx (mVar 1) (mKon (.int 0))) (mIx (mVar 0) (mKon (.int 1))))) (maCons (m2 fMul (mIx (mVar 0) (mKon (.int 1))) (mIx (mVar 1) (mKon (.int 1)))) maNil))))
noncomputable def f_law_minus : Fx := run' 2 2 m_law_minus
noncomputable def m_law_times : Ms :=
  (mRet (mCall f_law_frac (maCons (m2 fMul (mIx (mVar 0) (mKon (.int 0))) (mIx (mVar 1) (mKon (.int 0)))) (maCons (m2 fMul (mIx (mVar 0) (mKon (.int 1))) (mIx (mVar 1) (mKon (.int 1)))) maNil))))
noncomputable def f_law_times : Fx := run' 2 2 m_law_times
noncomputable def m_law_over : Ms :=
  (mRet (mCall f_law_frac (maCons (m2 fMul (mIx (mVar 0) (mKon (.int 0))) (mIx (mVar 1) (mKon (.int 1)))) (maCons (m2 fMul (mIx (mVar 0) (mKon (.int 1))) (mIx (mVar 1) (mKon (.int 0)))) maNil))))
noncomputable def f_law_over : Fx := run' 2 2 m_law_over
noncomputable def m_law_total : Ms :=
  (mSeq (mSet 1 (mA fTup (maCons (mKon (.int 0)) (maCons (mKon (.int 1)) maNil))))
    (mSeq (mFor (mSeqI (mVar 0)) (gN 2)
    (mSet 1 (mCall f_law_plus (maCons (mVar 1) (maCons (mVar 2) maNil)))))
    (mRetV 1)))
noncomputable def f_law_total : Fx := run' 1 3 m_law_total
noncomputable def m_law_part : Ms :=
  (mSeq (mSet 1 (mCall f_law_pick (maCons (mVar 0) (maCons (mKon (.int 9)) maNil))))
    (mSeq (mIfS (bT (m2 (fI gLt) (mVar 1) (mKon (.int 7))))
    (mRet (mIx (mA fTup (maCons (mA fTup (maCons (mKon (.int 1)) (maCons (mKon (.int 2)) maNil))) (maCons (mA fTup (maCons (mKon (.int 1)) (maCons (mKon (.int 2)) maNil))) (maCons (mA fTup (maCons (mKon (.int 1)) (maCons (mKon (.int 3)) maNil))) (maCons (mA fTup (maCons (mKon (.int 2)) (maCons (mKon (.int 3)) maNil))) (maCons (mA fTup (maCons (mKon (.int 3)) (maCons (mKon (.int 4)) maNil))) (maCons (mA fTup (maCons (mKon (.int 1)) (maCons (mKon (.int 4)) maNil))) (maCons (mA fTup (maCons (mKon (.int 0)) (maCons (mKon (.int 1)) maNil))) maNil)))))))) (mVar 1)))
    mNil)
    (mSeq (mSet 2 (m2 fAdd (mKon (.int 2)) (mCall f_law_pick (maCons (mVar 0) (maCons (mKon (.int 60)) maNil)))))
    (mRet (mCall f_law_frac (maCons (mCall f_law_pick (maCons (mVar 0) (maCons (mVar 2) maNil))) (maCons (mVar 2) maNil)))))))
noncomputable def f_law_part : Fx := run' 1 3 m_law_part
noncomputable def m_law_gains : Ms :=
  (mSeq (mSet 2 (mA fLst maNil))
    (mSeq (mFor (mArgI range1 (maCons (mVar 1) maNil)) (gN 3)
    (mIfS (bT (m2 (fEq false) (mCall f_law_pick (maCons (mVar 0) (maCons (mKon (.int 14)) maNil))) (mKon (.int 13))))
    (mApp 2 (mCall f_law_frac (maCons (m2 (fI gMns) (mCall f_law_pick (maCons (mVar 0) (maCons (mKon (.int 20000001)) maNil))) (mKon (.int 10000000))) (maCons (m2 fAdd (mKon (.int 1)) (mCall f_law_pick (maCons (mVar 0) (maCons (mKon (.int 60)) maNil)))) maNil))))
    (mApp 2 (mCall f_law_frac (maCons (m2 (fI gMns) (mCall f_law_pick (maCons (mVar 0) (maCons (mKon (.int 8)) maNil))) (mKon (.int 3))) (maCons (mCall f_law_any_of (maCons (mVar 0) (maCons (mA fTup (maCons (mKon (.int 1)) (maCons (mKon (.int 1)) (maCons (mKon (.int 1)) (maCons (mKon (.int 2)) (maCons (mKon (.int 3)) maNil)))))) maNil))) maNil))))))
    (mRet (mA fTupOf (maCons (mVar 2) maNil)))))
noncomputable def f_law_gains : Fx := run' 2 4 m_law_gains
noncomputable def m_law_parts : Ms :=
  (mSeq (mSet 2 (mA fLst maNil))
    (mSeq (mFor (mArgI range1 (maCons (mVar 1) maNil)) (gN 3)
    (mSeq (mSet 4 (mCall f_law_pick (maCons (mVar 0) (maCons (mKon (.int 13)) maNil))))
    (mApp 2 (mIf (bT (m2 (fI gLt) (mVar 4) (mKon (.int 12)))) (mIx (mA fTup (maCons (mKon (.int 0)) (maCons (mKon (.int 1)) (maCons (mKon (.int 0)) (maCons (mKon (.int 1)) (maCons (mKon (.int 2)) (maCons (mKon (.int 0)) (maCons (mKon (.int 1)) (maCons (mKon (.int 3)) (maCons (mKon (.int 0)) (maCons (mKon (.int 1)) (maCons (mKon (.int 2)) (maCons (mKon (.int 0)) maNil))))))))))))) (mVar 4)) (m2 fAdd (mKon (.int 4)) (mCall f_law_pick (maCons (mVar 0) (maCons (mKon (.int 40)) maNil))))))))
    (mSeq (mIfS (bT (m2 (fEq false) (mA fSum (maCons (mVar 2) maNil)) (mKon (.int 0))))
    (mPut 2 (mCall f_law_pick (maCons (mVar 0) (maCons (mVar 1) maNil))) (mKon (.int 1)))
    mNil)
    (mRetV 2))))
noncomputable def f_law_parts : Fx := run' 2 5 m_law_parts
noncomputable def m_law_chances : Ms :=
  (mSeq (mSet 2 (mCall f_law_parts (maCons (mVar 0) (maCons (mVar 1) maNil))))
    (mRet (mA fTupOf (maCons (mLc (mArgI range1 (maCons (mVar 1) maNil)) [3] (gN 3) (bT (m2 (fI gGt) (mIx (mVar 2) (mVar 3)) (mKon (.int 0)))) (mA fTup (maCons (mVar 3) (maCons (mCall f_law_frac (maCons (mIx (mVar 2) (mVar 3)) (maCons (mA fSum (maCons (mVar 2) maNil)) maNil))) maNil)))) maNil))))
noncomputable def f_law_chances : Fx := run' 2 4 m_law_chances
noncomputable def m_law_sized : Ms :=
  (mSeq (mPar 3 4 (maCons (mCall f_law_part (maCons (mVar 0) maNil)) (maCons (mA fLst maNil) maNil)))
    (mSeq (mFor (mSeqI (mVar 1)) (gN 5)
    (mSeq (mSet 6 (mA fLst maNil))
    (mSeq (mFor (mArgI range1 (maCons (mVar 5) maNil)) (gN 7)
    (mIfS (tAnd2 (bT (m2 (fEq true) (mVar 6) (mA fLst maNil))) (bT (m2 (fEq false) (mCall f_law_pick (maCons (mVar 0) (maCons (mKon (.int 9)) maNil))) (mKon (.int 8)))))
    (mApp 6 (mIx (mVar 6) (mKon (.int 0))))
    (mSeq (mSet 8 (mCall f_law_chances (maCons (mVar 0) (maCons (mA fLen (maCons (mVar 1) maNil)) maNil))))
    (mApp 6 (mA fTup (maCons (mVar 8) (maCons (mCall f_law_gains (maCons (mVar 0) (maCons (mVar 2) maNil))) maNil)))))))
    (mApp 4 (mA fTupOf (maCons (mVar 6) maNil))))))
    (mRet (mA fTup (maCons (mVar 3) (maCons (mVar 2) (maCons (mA fTupOf (maCons (mVar 4) maNil)) maNil)))))))
noncomputable def f_law_sized : Fx := run' 3 9 m_law_sized
noncomputable def m_law_world : Ms :=
  (mSeq (mSet 4 (mA fLst maNil))
    (mSeq (mFor (mArgI range1 (maCons (m2 fAdd (mKon (.int 1)) (mCall f_law_pick (maCons (mVar 0) (maCons (mVar 1) maNil)))) maNil)) (gN 5)
    (mApp 4 (m2 fAdd (mKon (.int 1)) (mCall f_law_pick (maCons (mVar 0) (maCons (mVar 2) maNil))))))
    (mFrz [4] (mRet (mCall f_law_sized (maCons (mVar 0) (maCons (mVar 4) (maCons (mVar 3) maNil))))))))
noncomputable def f_law_world : Fx := run' 4 6 m_law_world
noncomputable def m_law_sure : Ms :=
  (mSeq (mSet 2 (mA fLst maNil))
    (mSeq (mFor (mArgI zipQ2 (maCons (mIx (mVar 0) (mKon (.int 2))) (maCons (mVar 1) maNil))) (gT 2 (gsCons (gN 3) (gsCons (gN 4) gsNil)))
    (mApp 2 (mA fTupOf (maCons (mLc (mArgI range1 (maCons (mA fLen (maCons (mVar 3) maNil)) maNil)) [5] (gN 5) mYes (mA fTup (maCons (mIf (bT (m2 (fEq false) (mVar 5) (mVar 4))) (mKon (.int 1)) (mKon (.int 0))) (maCons (mKon (.int 1)) maNil)))) maNil))))
    (mRet (mA fTupOf (maCons (mVar 2) maNil)))))
noncomputable def f_law_sure : Fx := run' 2 6 m_law_sure
noncomputable def m_law_ends : Ms :=
  (mSeq (mSet 2 (mCall f_law_parts (maCons (mVar 0) (maCons (mVar 1) maNil))))
    (mRet (mA fTupOf (maCons (mLc (mArgI range1 (maCons (mVar 1) maNil)) [3] (gN 3) (bT (m2 (fI gGt) (mIx (mVar 2) (mVar 3)) (mKon (.int 0)))) (mVar 3)) maNil))))
noncomputable def f_law_ends : Fx := run' 2 4 m_law_ends
noncomputable def m_law_moves : Ms :=
  (mSeq (mSet 2 (mA fLst maNil))
    (mSeq (mFor (mArgI zipQ2 (maCons (mIx (mVar 0) (mKon (.int 2))) (maCons (mVar 1) maNil))) (gT 2 (gsCons (gN 3) (gsCons (gN 4) gsNil)))
    (mSeq (mSet 5 (m2 fMul (mA fLst (maCons (mA fTup (maCons (mKon (.int 0)) (maCons (mKon (.int 1)) maNil))) maNil)) (mA fLen (maCons (mIx (mVar 0) (mKon (.int 2))) maNil))))
    (mSeq (mFor (mArgI zipQ2 (maCons (mVar 3) (maCons (mVar 4) maNil))) (gT 2 (gsCons (gN 6) (gsCons (gN 7) gsNil)))
    (mFor (mSeqI (mIx (mVar 6) (mKon (.int 0)))) (gT 2 (gsCons (gN 8) (gsCons (gN 9) gsNil)))
    (mPut 5 (mVar 8) (mCall f_law_plus (maCons (mIx (mVar 5) (mVar 8)) (maCons (mCall f_law_times (maCons (mVar 7) (maCons (mVar 9) maNil))) maNil))))))
    (mFrz [5] (mApp 2 (mVar 5))))))
    (mRetV 2)))
noncomputable def f_law_moves : Fx := run' 2 10 m_law_moves
noncomputable def m_law_solved : Ms :=
  (mSeq (mSet 1 (mLc (mSeqI (mVar 0)) [6] (gN 6) mYes (mA fLstOf (maCons (mVar 6) maNil))))
    (mSeq (mFor (mArgI range1 (maCons (mA fLen (maCons (mVar 1) maNil)) maNil)) (gN 2)
    (mSeq (mSet 3 (mIx (mIx (mVar 1) (mVar 2)) (mVar 2)))
    (mSeq (mPut 1 (mVar 2) (mLc (mSeqI (mIx (mVar 1) (mVar 2))) [7] (gN 7) mYes (mCall f_law_over (maCons (mVar 7) (maCons (mVar 3) maNil)))))
    (mFor (mArgI range1 (maCons (mA fLen (maCons (mVar 1) maNil)) maNil)) (gN 4)
    (mSeq (mSet 5 (mIx (mIx (mVar 1) (mVar 4)) (mVar 2)))
    (mIfS (tAnd2 (bT (m2 (fEq true) (mVar 4) (mVar 2))) (bT (m2 (fEq true) (mIx (mVar 5) (mKon (.int 0))) (mKon (.int 0)))))
    (mPut 1 (mVar 4) (mLc (mArgI zipQ2 (maCons (mIx (mVar 1) (mVar 4)) (maCons (mIx (mVar 1) (mVar 2)) maNil))) [7, 8] (gT 2 (gsCons (gN 7) (gsCons (gN 8) gsNil))) mYes (mCall f_law_minus (maCons (mVar 7) (maCons (mCall f_law_times (maCons (mVar 5) (maCons (mVar 8) maNil))) maNil)))))
    mNil))))))
    (mFrz [1] (mRet (mLc (mSeqI (mVar 1)) [6] (gN 6) mYes (mA fTupOf (maCons (mSl (mVar 6) (moSome (mA fLen (maCons (mVar 1) maNil))) moNone) maNil)))))))
noncomputable def f_law_solved : Fx := run' 1 9 m_law_solved
noncomputable def m_law_choices : Ms :=
  (mSeq (mSet 1 (mA fLst (maCons (mA fTup maNil) maNil)))
    (mSeq (mFor (mSeqI (mIx (mVar 0) (mKon (.int 2)))) (gN 2)
    (mSeq (mSet 3 (mA fLst maNil))
    (mSeq (mFrz [1] (mFor (mSeqI (mVar 1)) (gN 4)
    (mFor (mArgI range1 (maCons (mA fLen (maCons (mVar 2) maNil)) maNil)) (gN 5)
    (mApp 3 (m2 fAdd (mVar 4) (mA fTup (maCons (mVar 5) maNil)))))))
    (mFrz [3] (mSet 1 (mVar 3))))))
    (mRetV 1)))
noncomputable def f_law_choices : Fx := run' 1 6 m_law_choices
noncomputable def m_law_leads : Ms :=
  (mRet (mA fAny (maCons (mLc (mSeqI (mVar 1)) [2] (gN 2) mYes (m2 (fI gGt) (mIx (mIx (mVar 0) (mVar 2)) (mKon (.int 0))) (mKon (.int 0)))) maNil)))
noncomputable def f_law_leads : Fx := run' 2 3 m_law_leads
noncomputable def m_law_coming : Ms :=
  (mSeq (mAsg (gT 2 (gsCons (gN 3) (gsCons (gN 4) gsNil))) (mA fTup (maCons (mCall f_law_moves (maCons (mVar 0) (maCons (mVar 2) maNil))) (maCons (mA fLstOf (maCons (mVar 1) maNil)) maNil))))
    (mSeq (mSet 5 (mA fLen (maCons (mVar 3) maNil)))
    (mSeq (mFor (mArgI range1 (maCons (mVar 5) maNil)) (gN 6)
    (mFrz [4] (mSet 4 (mLc (mArgI range1 (maCons (mVar 5) maNil)) [9] (gN 9) (tOr2 (bT (m2 (fIn false) (mVar 9) (mVar 4))) (bT (mCall f_law_leads (maCons (mIx (mVar 3) (mVar 9)) (maCons (mVar 4) maNil))))) (mVar 9)))))
    (mSeq (mFrz [4] (mPar2f 7 8 (maCons (mLc (mSeqI (mVar 4)) [9] (gN 9) (bT (m2 (fIn true) (mVar 9) (mVar 1))) (mVar 9)) (maCons (mA fLst maNil) maNil))))
    (mSeq (mFrz [7] (mFor (mSeqI (mVar 7)) (gN 9)
    (mSeq (mFrz [7] (mSet 10 (mLc (mSeqI (mVar 7)) [13] (gN 13) mYes (mCall f_law_minus (maCons (mA fTup (maCons (mIf (bT (m2 (fEq false) (mVar 9) (mVar 13))) (mKon (.int 1)) (mKon (.int 0))) (maCons (mKon (.int 1)) maNil))) (maCons (mIx (mIx (mVar 3) (mVar 9)) (mVar 13)) maNil))))))
    (mApp 8 (m2 fAdd (mVar 10) (mA fLst (maCons (mCall f_law_total (maCons (mLc (mSeqI (mVar 1)) [13] (gN 13) mYes (mIx (mIx (mVar 3) (mVar 9)) (mVar 13))) maNil)) maNil)))))))
    (mSeq (mSet 11 (mLc (mArgI range1 (maCons (mVar 5) maNil)) [9] (gN 9) mYes (mA fTup (maCons (mIf (bT (m2 (fIn false) (mVar 9) (mVar 1))) (mKon (.int 1)) (mKon (.int 0))) (maCons (mKon (.int 1)) maNil)))))
    (mSeq (mFrz [7, 8] (mFor (mArgI zipQ2 (maCons (mVar 7) (maCons (mCall f_law_solved (maCons (mVar 8) maNil)) maNil))) (gT 2 (gsCons (gN 9) (gsCons (gN 12) gsNil)))
    (mPut 11 (mVar 9) (mIx (mVar 12) (mKon (.int 0))))))
    (mRet (mA fTupOf (maCons (mVar 11) maNil))))))))))
noncomputable def f_law_coming : Fx := run' 3 14 m_law_coming
noncomputable def m_law_has_stay : Ms :=
  (mRet (mA fAny (maCons (mLc (mSeqI (mVar 0)) [2] (gN 2) mYes (mA fAll (maCons (mLc (mSeqI (mIx (mVar 2) (mKon (.int 0)))) [3] (gN 3) mYes (m2 (fIn false) (mIx (mVar 3) (mKon (.int 0))) (mVar 1))) maNil))) maNil)))
noncomputable def f_law_has_stay : Fx := run' 2 4 m_law_has_stay
noncomputable def m_law_never : Ms :=
  (mSeq (mSet 2 (mLc (mArgI range1 (maCons (mA fLen (maCons (mIx (mVar 0) (mKon (.int 2))) maNil)) maNil)) [4] (gN 4) (bT (m2 (fIn true) (mVar 4) (mVar 1))) (mVar 4)))
    (mSeq (mFor (mArgI range1 (maCons (mA fLen (maCons (mIx (mVar 0) (mKon (.int 2))) maNil)) maNil)) (gN 3)
    (mFrz [2] (mSet 2 (mLc (mArgI range1 (maCons (mA fLen (maCons (mIx (mVar 0) (mKon (.int 2))) maNil)) maNil)) [4] (gN 4) (tAnd2 (bT (m2 (fIn false) (mVar 4) (mVar 2))) (bT (mCall f_law_has_stay (maCons (mIx (mIx (mVar 0) (mKon (.int 2))) (mVar 4)) (maCons (mVar 2) maNil))))) (mVar 4)))))
    (mRetV 2)))
noncomputable def f_law_never : Fx := run' 2 5 m_law_never
noncomputable def m_law_ranks : Ms :=
  (mSeq (mPar2g 2 3 (maCons (mCall f_law_never (maCons (mVar 0) (maCons (mVar 1) maNil))) (maCons (mA fLst maNil) maNil)))
    (mSeq (mFor (mArgI range1 (maCons (mA fLen (maCons (mIx (mVar 0) (mKon (.int 2))) maNil)) maNil)) (gN 4)
    (mApp 3 (mIf (tOr2 (bT (m2 (fIn false) (mVar 4) (mVar 1))) (bT (m2 (fIn false) (mVar 4) (mVar 2)))) (mKon (.int 0)) (m2 fAdd (mA fLen (maCons (mIx (mVar 0) (mKon (.int 2))) maNil)) (mKon (.int 1))))))
    (mSeq (mFor (mArgI range2 (maCons (mKon (.int 1)) (maCons (m2 fAdd (mA fLen (maCons (mIx (mVar 0) (mKon (.int 2))) maNil)) (mKon (.int 1))) maNil))) (gN 5)
    (mSeq (mSet 6 (mLc (mArgI range1 (maCons (mA fLen (maCons (mVar 3) maNil)) maNil)) [4] (gN 4) (bT (m2 (fI gLt) (mIx (mVar 3) (mVar 4)) (mVar 5))) (mVar 4)))
    (mFor (mArgI range1 (maCons (mA fLen (maCons (mVar 3) maNil)) maNil)) (gN 4)
    (mSeq (mSet 7 (mLc (mSeqI (mIx (mIx (mVar 0) (mKon (.int 2))) (mVar 4))) [8] (gN 8) mYes (m2 (fI gGt) (mA fLen (maCons (mLc (mSeqI (mIx (mVar 8) (mKon (.int 0)))) [9] (gN 9) (bT (m2 (fIn false) (mIx (mVar 9) (mKon (.int 0))) (mVar 6))) (mVar 9)) maNil)) (mKon (.int 0)))))
    (mIfS (tAnd2 (bT (m2 (fIn true) (mVar 4) (mVar 6))) (bT (mA fAll (maCons (mVar 7) maNil))))
    (mPut 3 (mVar 4) (mVar 5))
    mNil)))))
    (mRet (mA fTupOf (maCons (mVar 3) maNil))))))
noncomputable def f_law_ranks : Fx := run' 2 10 m_law_ranks
noncomputable def m_law_ones : Ms :=
  (mSeq (mSet 2 (mA fLst maNil))
    (mSeq (mFor (mSeqI (mCall f_law_choices (maCons (mVar 0) maNil))) (gN 3)
    (mSeq (mSet 4 (mCall f_law_coming (maCons (mVar 0) (maCons (mVar 1) (maCons (mCall f_law_sure (maCons (mVar 0) (maCons (mVar 3) maNil))) maNil)))))
    (mApp 2 (mLc (mArgI range1 (maCons (mA fLen (maCons (mVar 4) maNil)) maNil)) [5] (gN 5) (bT (m2 (fEq false) (mIx (mVar 4) (mVar 5)) (mA fTup (maCons (mKon (.int 1)) (maCons (mKon (.int 1)) maNil))))) (mVar 5)))))
    (mRetV 2)))
noncomputable def f_law_ones : Fx := run' 2 6 m_law_ones
noncomputable def m_law_right : Ms :=
  (mSeq (mAsg (gT 2 (gsCons (gN 1) (gsCons (gN 2) gsNil))) (mCall f_law_any_of (maCons (mVar 0) (maCons (mA fTup (maCons (mA fTup (maCons (mKon (.int 3)) (maCons (mKon (.int 3)) maNil))) (maCons (mA fTup (maCons (mKon (.int 3)) (maCons (mKon (.int 3)) maNil))) (maCons (mA fTup (maCons (mKon (.int 4)) (maCons (mKon (.int 2)) maNil))) maNil)))) maNil))))
    (mSeq (mSet 3 (mCall f_law_world (maCons (mVar 0) (maCons (mVar 1) (maCons (mVar 2) (maCons (mKon (.int 1)) maNil))))))
    (mSeq (mSet 4 (mCall f_law_ends (maCons (mVar 0) (maCons (mA fLen (maCons (mIx (mVar 3) (mKon (.int 2))) maNil)) maNil))))
    (mSeq (mAsg (gT 2 (gsCons (gN 5) (gsCons (gN 6) gsNil))) (mA fTup (maCons (mCall f_law_ranks (maCons (mVar 3) (maCons (mVar 4) maNil))) (maCons (mCall f_law_ones (maCons (mVar 3) (maCons (mVar 4) maNil))) maNil))))
    (mSeq (mSet 7 (mA fLst (maCons (mCall f_ranks_of (maCons (mVar 3) (maCons (mVar 4) maNil))) (maCons (mCallK f_ranks_of [1, 0] 2 (maCons (mVar 4) (maCons (mVar 3) maNil))) maNil))))
    (mSeq (mIfS (bT (m2 (fEq true) (mA fRepr (maCons (mVar 7) maNil)) (mA fRepr (maCons (mA fLst (maCons (mVar 5) (maCons (mVar 5) maNil))) maNil))))
    (mRet (mKon (.bool false)))
    mNil)
    (mSeq (mFrz [6] (mSet 8 (mA fTupOf (maCons (mLc (mArgI range1 (maCons (mA fLen (maCons (mVar 5) maNil)) maNil)) [10] (gN 10) (bT (mA fAny (maCons (mLc (mSeqI (mVar 6)) [11] (gN 11) mYes (m2 (fIn false) (mVar 10) (mVar 11))) maNil))) (mVar 10)) maNil))))
    (mSeq (mFrz [6] (mSet 9 (mA fTupOf (maCons (mLc (mArgI range1 (maCons (mA fLen (maCons (mVar 5) maNil)) maNil)) [10] (gN 10) (bT (mA fAll (maCons (mLc (mSeqI (mVar 6)) [11] (gN 11) mYes (m2 (fIn false) (mVar 10) (mVar 11))) maNil))) (mVar 10)) maNil))))
    (mSeq (mSet 7 (mA fLst (maCons (mCall f_sure_stands (maCons (mVar 3) (maCons (mVar 4) maNil))) (maCons (mCall f_certain_stands (maCons (mVar 3) (maCons (mVar 4) maNil))) maNil))))
    (mSeq (mSet 7 (m2 fAdd (mVar 7) (mA fLst (maCons (mCallK f_certain_stands [1, 0] 2 (maCons (mVar 4) (maCons (mVar 3) maNil))) (maCons (mCallK f_sure_stands [1, 0] 2 (maCons (mVar 4) (maCons (mVar 3) maNil))) maNil)))))
    (mRet (m2 (fEq false) (mA fRepr (maCons (mVar 7) maNil)) (mA fRepr (maCons (mA fLst (maCons (mVar 8) (maCons (mVar 9) (maCons (mVar 9) (maCons (mVar 8) maNil))))) maNil))))))))))))))
noncomputable def f_law_right : Fx := run' 1 12 m_law_right
noncomputable def m_law : Ms :=
  (mRet (mA fAll (maCons (mLc (mArgI range1 (maCons (mA fMax2 (maCons (mKon (.int 1)) (maCons (mA fMin2 (maCons (mA fLen (maCons (mVar 0) maNil)) (maCons (mKon (.int 3)) maNil))) maNil))) maNil)) [1] (gN 1) mYes (mCallN f_law_right (maCons (mCall f_law_spring (maCons (mVar 0) (maCons (mVar 1) maNil))) maNil))) maNil)))
noncomputable def f_law : Fx := run' 1 2 m_law
end WW
namespace WW
open PySem PySem.Spec L2 PySem.W Dh
theorem e_ratio {t l : Int} {s : Sto} (h : 0 < l) (hl : l.natAbs < 2 ^ 9000) : f_ratio [.d (.int t), .d (.int l)] s = some (.d (pQ (Rat.divInt t l)), s) := by
  refine WF.eq (WF.body rfl ?_)
  have g : 0 < gg t l := gg_pos (by omega)
  have g1 : (gg t l).natAbs < 2 ^ 9000 := Nat.lt_of_le_of_lt (gg_le (by omega)) hl
  have e1 : gFdiv t ((t.natAbs.gcd l.natAbs : Nat) : Int) = _ := gFdiv_pos g g1
  have e2 : gFdiv l ((t.natAbs.gcd l.natAbs : Nat) : Int) = _ := gFdiv_pos g g1
  simp [m_ratio, h, List.replicate_succ, e1, e2, sz2, pQ, divInt_num h, divInt_den h]
  exact ⟨rfl, rfl⟩
theorem e_ratioN {t l : Int} {s : Sto} (h : l < 0) (hl : l.natAbs < 2 ^ 9000) : f_ratio [.d (.int t), .d (.int l)] s = some (.d (pQ (Rat.divInt t l)), s) := by
  refine WF.eq (WF.body rfl ?_)
  have g : 0 < gg t l := gg_pos (by omega)
  have g1 : (gg t l).natAbs < 2 ^ 9000 := Nat.lt_of_le_of_lt (gg_le (by omega)) hl
  have h0 : ¬ 0 < l := by omega
  have e0 : ∀ i : Int, gFdiv i (-((t.natAbs.gcd l.natAbs : Nat) : Int)) = some (.int ((-i) / gg t l)) := fun i => by
    have : ((t.natAbs.gcd l.natAbs : Nat) : Int) = gg t l := rfl
    rw [this]
    unfold gFdiv
    rw [if_pos ⟨by omega, pylong_of (by rw [Int.natAbs_neg]; exact g1)⟩]
    rw [show i = - (- i) by omega, Int.neg_fdiv_neg, fdiv_pos g, Int.neg_neg]
  have n : gg (-t) (-l) = gg t l := by unfold gg; rw [Int.natAbs_neg, Int.natAbs_neg]
  have a := divInt_num (t := -t) (l := -l) (by omega)
  have b := divInt_den (t := -t) (l := -l) (by omega)
  rw [Rat.neg_divInt_neg, n] at a b
  simp [m_ratio, h0, List.replicate_succ, e0, sz2, pQ, a, b]
theorem e_plus {p q : Rat} {s : Sto} (hp : Bd p) (hq : Bd q) : f_plus [.d (pQ p), .d (pQ q)] s = some (.d (pQ (p + q)), s) := by
  refine WF.eq (WF.body rfl ?_)
  simp [m_plus, pQ, fMul_ok, mulOk_nd hp hq, mulOk_nd hq hp, mulOk_dd hp hq]
  refine WF.of (e_ratio (den_mul_pos p q) (den_lt hp hq)) ?_
  rw [← add_divInt]
  simp [pQ]
theorem e_minus {p q : Rat} {s : Sto} (hp : Bd p) (hq : Bd q) : f_minus [.d (pQ p), .d (pQ q)] s = some (.d (pQ (p - q)), s) := by
  refine WF.eq (WF.body rfl ?_)
  simp [m_minus, pQ, fMul_ok, mulOk_nd hp hq, mulOk_nd hq hp, mulOk_dd hp hq]
  refine WF.of (e_ratio (den_mul_pos p q) (den_lt hp hq)) ?_
  rw [← sub_divInt]
  simp [pQ]
theorem e_times {p q : Rat} {s : Sto} (hp : Bd p) (hq : Bd q) : f_times [.d (pQ p), .d (pQ q)] s = some (.d (pQ (p * q)), s) := by
  refine WF.eq (WF.body rfl ?_)
  simp [m_times, pQ, fMul_ok, mulOk_nn hp hq, mulOk_dd hp hq]
  refine WF.of (e_ratio (den_mul_pos p q) (den_lt hp hq)) ?_
  rw [← mul_divInt]
  simp [pQ]
theorem e_over {p q : Rat} {s : Sto} (hp : Bd p) (hq : Bd q) (h0 : q ≠ 0) : f_over [.d (pQ p), .d (pQ q)] s = some (.d (pQ (p / q)), s) := by
  refine WF.eq (WF.body rfl ?_)
  simp [m_over, pQ, fMul_ok, mulOk_nd hp hq, mulOk_dn hp hq]
  have n0 : q.num ≠ 0 := fun z => h0 (Rat.num_eq_zero.mp z)
  have dp := den_pos p
  have hl : ((p.den : Int) * q.num).natAbs < 2 ^ 9000 := lt_mulB hp.den' hq.1
  rcases Int.lt_or_gt_of_ne n0 with h | h
  · refine WF.of (e_ratioN (Int.mul_neg_of_pos_of_neg dp h) hl) ?_
    rw [← div_divInt]
    simp [pQ]
  · refine WF.of (e_ratio (Int.mul_pos dp h) hl) ?_
    rw [← div_divInt]
    simp [pQ]
theorem e_is_less {p q : Rat} {s : Sto} (hp : Bd p) (hq : Bd q) : f_is_less [.d (pQ p), .d (pQ q)] s = some (.d (.bool (decide (p < q))), s) := by
  refine WF.eq (WF.body rfl ?_)
  simp [m_is_less, pQ, fMul_ok, mulOk_nd hp hq, mulOk_nd hq hp, Rat.lt_iff]
theorem w_euclid {x y : Option Cl} {s : Sto} {Q : Out → Ev → Sto → Prop} : ∀ (b a : Nat), Q .nx [x, y, some (.d (.int ((Nat.gcd a b : Nat) : Int))), some (.d (.int 0))] s →
    WWh (bT (m2 (fI gGt) (mVar 3) (mKon (.int 0)))) (mPar 2 3 (maCons (mVar 3) (maCons (m2 (fI gMod) (mA fInt (maCons (mVar 2) maNil)) (mVar 3)) maNil))) [x, y, some (.d (.int (a : Int))), some (.d (.int (b : Int)))] s Q := by
  intro b
  induction b using Nat.strongRecOn with
  | ind b ih =>
    intro a h
    refine WWh_next ?_
    by_cases hb : b = 0
    · subst hb
      simp at h ⊢
      exact h
    · have hp : (0 : Int) < (b : Int) := by omega
      have hq : 0 < b := by omega
      have e : gMod (a : Int) (b : Int) = _ := gMod_pos hp
      simp [hq, hp, e]
      have := ih (a % b) (Nat.mod_lt _ hq) b (by rw [Nat.gcd_comm, ← Nat.gcd_rec, Nat.gcd_comm]; exact h)
      rw [Int.natCast_emod] at this
      exact this
theorem e_frac0 {t l : Int} {s : Sto} (h : l ≠ 0) (hl : l.natAbs < 2 ^ 9000) : f_law_frac [.d (.int t), .d (.int l)] s = some (.d (pQ (Rat.divInt t l)), s) := by
  refine WF.eq (WF.body rfl ?_)
  have g : 0 < gg t l := gg_pos h
  have g1 : (gg t l).natAbs < 2 ^ 9000 := Nat.lt_of_le_of_lt (gg_le h) hl
  have a1 : (if t < 0 then -t else t) = ((t.natAbs : Nat) : Int) := by split <;> omega
  have a2 : (if l < 0 then -l else l) = ((l.natAbs : Nat) : Int) := by split <;> omega
  have e : ∀ i : Int, gFdiv i ((t.natAbs.gcd l.natAbs : Nat) : Int) = some (.int (i / gg t l)) := fun i => gFdiv_pos g g1
  simp only [m_law_frac]
  simp [List.replicate_succ, a1, a2]
  refine w_euclid _ _ ?_
  by_cases hp : 0 < l
  · simp [hp, e, sz2, pQ, divInt_num hp, divInt_den hp]
  · have n : gg (-t) (-l) = gg t l := by unfold gg; rw [Int.natAbs_neg, Int.natAbs_neg]
    have a := divInt_num (t := -t) (l := -l) (by omega)
    have b := divInt_den (t := -t) (l := -l) (by omega)
    rw [Rat.neg_divInt_neg, n] at a b
    have c1 : ∀ i : Int, gg t l ∣ i → (-i) / gg t l = - (i / gg t l) := fun i hi => Int.neg_ediv_of_dvd hi
    have d1 : gg t l ∣ t := Int.ofNat_dvd_left.mpr (Nat.gcd_dvd_left _ _)
    have d2 : gg t l ∣ l := Int.ofNat_dvd_left.mpr (Nat.gcd_dvd_right _ _)
    simp [hp, e, sz2, pQ, a, b, c1 t d1, c1 l d2]
theorem e_lplus {p q : Rat} {s : Sto} (hp : Bd p) (hq : Bd q) : f_law_plus [.d (pQ p), .d (pQ q)] s = some (.d (pQ (p + q)), s) := by
  refine WF.eq (WF.body rfl ?_)
  simp [m_law_plus, pQ, fMul_ok, mulOk_nd hp hq, mulOk_nd hq hp, mulOk_dd hp hq]
  refine WF.of (e_frac0 (by have := den_mul_pos p q; omega) (den_lt hp hq)) ?_
  rw [← add_divInt]
  simp [pQ]
theorem e_lminus {p q : Rat} {s : Sto} (hp : Bd p) (hq : Bd q) : f_law_minus [.d (pQ p), .d (pQ q)] s = some (.d (pQ (p - q)), s) := by
  refine WF.eq (WF.body rfl ?_)
  simp [m_law_minus, pQ, fMul_ok, mulOk_nd hp hq, mulOk_nd hq hp, mulOk_dd hp hq]
  refine WF.of (e_frac0 (by have := den_mul_pos p q; omega) (den_lt hp hq)) ?_
  rw [← sub_divInt]
  simp [pQ]
theorem e_ltimes {p q : Rat} {s : Sto} (hp : Bd p) (hq : Bd q) : f_law_times [.d (pQ p), .d (pQ q)] s = some (.d (pQ (p * q)), s) := by
  refine WF.eq (WF.body rfl ?_)
  simp [m_law_times, pQ, fMul_ok, mulOk_nn hp hq, mulOk_dd hp hq]
  refine WF.of (e_frac0 (by have := den_mul_pos p q; omega) (den_lt hp hq)) ?_
  rw [← mul_divInt]
  simp [pQ]
theorem e_lover {p q : Rat} {s : Sto} (hp : Bd p) (hq : Bd q) (h0 : q ≠ 0) : f_law_over [.d (pQ p), .d (pQ q)] s = some (.d (pQ (p / q)), s) := by
  refine WF.eq (WF.body rfl ?_)
  simp [m_law_over, pQ, fMul_ok, mulOk_nd hp hq, mulOk_dn hp hq]
  have n0 : q.num ≠ 0 := fun z => h0 (Rat.num_eq_zero.mp z)
  have dp := den_pos p
  have hl : ((p.den : Int) * q.num).natAbs < 2 ^ 9000 := lt_mulB hp.den' hq.1
  refine WF.of (e_frac0 (Int.mul_ne_zero (by omega) n0) hl) ?_
  rw [← div_divInt]
  simp [pQ]
end WW
namespace Dh
open PySem PySem.Spec L2 PySem.W
@[elab_as_elim] theorem snoc_ind {α : Type} {P : List α → Prop} (nil : P []) (snoc : ∀ l x, P l → P (l ++ [x])) (l : List α) : P l := by
  rw [← List.reverse_reverse l]
  induction l.reverse with
  | nil => exact nil
  | cons x m ih => rw [List.reverse_cons]; exact snoc _ _ ih
def qsum (l : List Rat) : Rat := l.foldl (· + ·) 0
def qdot (l m : List Rat) : Rat := qsum ((l.zip m).map fun p => p.1 * p.2)
theorem qsum_snoc {l : List Rat} {x : Rat} : qsum (l ++ [x]) = qsum l + x := by simp [qsum]
theorem take_snoc {α : Type} {l : List α} {i : Nat} {x : α} (h : l[i]? = some x) : l.take (i + 1) = l.take i ++ [x] := by
  rw [List.take_add_one, h]; rfl
theorem QLt_0 {k : Nat} (h : 0 < k := by omega) : QLt k 0 := ⟨by rw [Rat.zero_num]; exact Nat.pow_pos (by decide), by rw [Rat.zero_den]; exact Nat.one_lt_two_pow (by omega)⟩
theorem QLt_1 {k : Nat} (h : 0 < k := by omega) : QLt k 1 := ⟨by rw [Rat.one_num]; exact Nat.one_lt_two_pow (by omega), by rw [Rat.one_den]; exact Nat.one_lt_two_pow (by omega)⟩
theorem qsum_lt {k : Nat} {l : List Rat} (h : ∀ q ∈ l, QLt k q) : QLt (1 + (k + 1) * l.length) (qsum l) := by
  revert h
  refine snoc_ind ?_ ?_ l
  · intro _; exact QLt_0
  · intro l x ih h
    rw [qsum_snoc, List.length_append, List.length_singleton, Nat.mul_add]
    exact (QLt_add (ih fun q hq => h q (by simp [hq])) (h x (by simp))).mono (by omega)
theorem mem_take {α : Type} {l : List α} {i : Nat} {x : α} (h : x ∈ l.take i) : x ∈ l := List.mem_of_mem_take h
theorem qsum_take_lt {k i : Nat} {l : List Rat} (h : ∀ q ∈ l, QLt k q) : QLt (1 + (k + 1) * l.length) (qsum (l.take i)) :=
  (qsum_lt fun q hq => h q (mem_take hq)).mono (by
    have : (l.take i).length ≤ l.length := by rw [List.length_take]; omega
    have := Nat.mul_le_mul_left (k + 1) this
    omega)
/-- a pair of data, by what each is -/
def p2 {α β : Type} (f : α → PyData) (g : β → PyData) (p : α × β) : PyData := .tuple [f p.1, g p.2]
theorem pairs_map {α β : Type} (f : α → PyData) (g : β → PyData) : ∀ (l : List α) (m : List β), pairs (l.map f) (m.map g) = (l.zip m).map (p2 f g)
  | [], m => by simp [pairs]
  | x :: l, [] => by simp [pairs]
  | x :: l, y :: m => by
    have := pairs_map f g l m
    unfold pairs at this ⊢
    simp only [List.map_cons, List.zip_cons_cons, this]
    rfl
theorem flat_one {α : Type} {x : α} : ∀ n : Nat, (List.replicate n [x]).flatten = List.replicate n x
  | 0 => rfl
  | n + 1 => by rw [List.replicate_succ, List.replicate_succ, List.flatten_cons, flat_one n]; rfl
theorem fMul_rep {x : PyData} {n : Nat} (h0 : 0 < n) (h : n ≤ 1000) : fMul (.d (.tuple [x])) (.d (.int (n : Int))) = some (.d (.tuple (List.replicate n x))) := by
  show (if (n : Int) = 1 then some (R.d (PyData.tuple [x])) else if [x] ≠ [] ∧ 2 ≤ (n : Int) ∧ (n : Int) ≤ 1000 ∧ [x].length ≤ 1000 then some (R.d (PyData.tuple (List.replicate (n : Int).toNat [x]).flatten)) else none) = _
  by_cases e : n = 1
  · subst e; rfl
  · rw [if_neg (by omega), if_pos ⟨by simp, by omega, by omega, by simp⟩]
    congr 3
    rw [Int.toNat_natCast]
    exact flat_one n
@[simp] theorem seqOf_t {xs : List PyData} : seqOf (.tuple xs) = some xs := rfl
@[simp] theorem seqOf_l {xs : List PyData} : seqOf (.list xs) = some xs := rfl
@[simp] theorem ev_zipQ2 {x y : R} : zipQ2 [x, y] = (match toD x, toD y with | some a, some b => (match seqOf a, seqOf b with | some xs, some ys => some (pairs xs ys) | _, _ => none) | _, _ => none) := by
  unfold zipQ2
  rw [ev_toDs1, ev_toDs1, ev_toDs0]
  cases toD x <;> cases toD y <;> rfl
@[simp] theorem ev_zipQ3 {x y z : R} : zipQ3 [x, y, z] = (match toD x, toD y, toD z with | some a, some b, some c => (match seqOf a, seqOf b, seqOf c with | some xs, some ys, some zs => some (trip xs ys zs) | _, _, _ => none) | _, _, _ => none) := by
  unfold zipQ3
  rw [ev_toDs1, ev_toDs1, ev_toDs1, ev_toDs0]
  cases toD x <;> cases toD y <;> cases toD z <;> rfl
@[simp] theorem items_b {xs : List PyData} : itemsOf (.b xs) = none := rfl
end Dh
namespace WW
open PySem PySem.Spec L2 PySem.W Dh
theorem e_total {x : PyData} {l : List Rat} {k : Nat} {s : Sto} (hx : itemsOf (.d x) = some (l.map pQ)) (hl : ∀ q ∈ l, QLt k q) (h : 1 + (k + 1) * l.length + k ≤ 4500) : f_total [.d x] s = some (.d (pQ (qsum l)), s) := by
  refine WF.eq (WF.body rfl ?_)
  simp [m_total, List.replicate_succ, hx]
  refine WFor_inv pQ l (fun i ρ s' => s' = s ∧ ∃ c, ρ = [some (.d x), some (.d (pQ (qsum (l.take i)))), c]) ⟨rfl, none, rfl⟩ ?_ ?_
  · rintro i q ρ s' hq ⟨rfl, c, rfl⟩
    simp
    refine WF.of (e_plus (qsum_take_lt hl).bd ((hl q (List.mem_of_getElem? hq)).bd)) ?_
    rw [take_snoc hq, qsum_snoc]
    simp
  · rintro ρ s' ⟨rfl, c, rfl⟩
    simp
end WW
namespace Dh
/-- D times q is whole, at most M without its sign -/
def CD (D M : Nat) (q : Rat) : Prop := ∃ z : Int, (D : Rat) * q = z ∧ z.natAbs ≤ M
theorem CD_0 {D M : Nat} : CD D M 0 := ⟨0, by simp, by simp⟩
theorem CD_1 {D M : Nat} (h : D ≤ M) : CD D M 1 := ⟨D, by rw [Rat.mul_one, Rat.intCast_natCast], by simpa using h⟩
theorem CD.mono {D M N : Nat} {q : Rat} (h : CD D M q) (k : M ≤ N) : CD D N q := let ⟨z, a, b⟩ := h; ⟨z, a, Nat.le_trans b k⟩
theorem CD.add {D M N : Nat} {p q : Rat} (h : CD D M p) (k : CD D N q) : CD D (M + N) (p + q) := by
  obtain ⟨z, a, b⟩ := h
  obtain ⟨w, c, d⟩ := k
  exact ⟨z + w, by rw [Rat.mul_add, a, c, Rat.intCast_add], Nat.le_trans (Int.natAbs_add_le _ _) (by omega)⟩
theorem CD.neg {D M : Nat} {p : Rat} (h : CD D M p) : CD D M (-p) := by
  obtain ⟨z, a, b⟩ := h
  exact ⟨-z, by rw [Rat.mul_neg, a, Rat.intCast_neg], by rw [Int.natAbs_neg]; exact b⟩
theorem CD.sub {D M N : Nat} {p q : Rat} (h : CD D M p) (k : CD D N q) : CD D (M + N) (p - q) := by
  rw [Rat.sub_eq_add_neg]; exact h.add k.neg
theorem CD.mul {D E M N : Nat} {p q : Rat} (h : CD D M p) (k : CD E N q) : CD (D * E) (M * N) (p * q) := by
  obtain ⟨z, a, b⟩ := h
  obtain ⟨w, c, d⟩ := k
  exact ⟨z * w, by rw [Rat.natCast_mul, Rat.intCast_mul, ← a, ← c]; grind, by rw [Int.natAbs_mul]; exact Nat.mul_le_mul b d⟩
theorem CD_if {c : Prop} [Decidable c] {D : Nat} : CD D D (if c then (1 : Rat) else 0) := by
  split
  · exact CD_1 (Nat.le_refl _)
  · exact CD_0
theorem CD_sum {D M : Nat} {l : List Rat} (h : ∀ q ∈ l, CD D M q) : CD D (l.length * M) (qsum l) := by
  revert h
  refine snoc_ind ?_ ?_ l
  · intro _
    exact CD_0
  · intro l x ih h
    rw [qsum_snoc, List.length_append, List.length_singleton, Nat.add_mul, Nat.one_mul]
    exact (ih fun q hq => h q (by simp [hq])).add (h x (by simp))
theorem CD_sum_le {D M n : Nat} {l : List Rat} (h : ∀ q ∈ l, CD D M q) (hn : l.length ≤ n) : CD D (n * M) (qsum l) := (CD_sum h).mono (Nat.mul_le_mul_right _ hn)
theorem CD.qlt {D M k : Nat} {q : Rat} (h : CD D M q) (h0 : 0 < D) (hD : D < 2 ^ k) (hM : M < 2 ^ k) : QLt k q := by
  obtain ⟨z, a, b⟩ := h
  exact El.qlt_of_frac (v0 := (D : Int)) (v := z) (by omega) (by rw [Rat.intCast_natCast]; exact a) (by rw [Int.natAbs_natCast]; exact hD) (Nat.lt_of_le_of_lt b hM)
theorem QLt.cd {k : Nat} {q : Rat} (h : QLt k q) : CD q.den (2 ^ k) q := ⟨q.num, El.den_mul_self q, Nat.le_of_lt h.1⟩
end Dh
namespace El
open Dh
theorem rowB_cd {A : Nat → Nat → Rat} {n j b i D : Nat} (h0 : 0 < D) (hD : D ≤ 2 ^ b) (h : ∀ l, (l < n ∨ l = j) → CD D (2 ^ b) (A i l)) : ∃ z : Nat → Int, RowB A n j b i (D : Int) z := by
  refine ⟨fun l => if q : l < n ∨ l = j then Classical.choose (h l q) else 0, by omega, by rw [Int.natAbs_natCast]; exact hD, fun l hl => ?_⟩
  rw [dif_pos hl]
  obtain ⟨a, b⟩ := Classical.choose_spec (h l hl)
  exact ⟨b, by rw [Rat.intCast_natCast]; exact a⟩
/-- every row over one number of at most b bits -/
def Rows (A : Nat → Nat → Rat) (n j b : Nat) : Prop := ∀ i, i < n → ∃ D : Nat, 0 < D ∧ D ≤ 2 ^ b ∧ ∀ l, (l < n ∨ l = j) → CD D (2 ^ b) (A i l)
theorem Rows.rowB {A : Nat → Nat → Rat} {n j b : Nat} (h : Rows A n j b) : ∃ (D : Nat → Int) (z : Nat → Nat → Int), ∀ i, i < n → RowB A n j b i (D i) (z i) := by
  have key : ∀ i, ∃ (D : Int) (z : Nat → Int), i < n → RowB A n j b i D z := fun i => by
    by_cases hi : i < n
    · obtain ⟨D, h0, hD, hl⟩ := h i hi
      obtain ⟨z, q⟩ := rowB_cd h0 hD hl
      exact ⟨D, z, fun _ => q⟩
    · exact ⟨0, fun _ => 0, fun q => absurd q hi⟩
  exact ⟨fun i => Classical.choose (key i), fun i => Classical.choose (Classical.choose_spec (key i)), fun i hi => Classical.choose_spec (Classical.choose_spec (key i)) hi⟩
theorem gj_cd {A : Nat → Nat → Rat} {n b c j k : Nat} (hk : k ≤ n) (ns : ∀ k, k ≤ n → NS A k) (h : Rows A n j b) (hc : k + 1 ≤ 2 ^ c) {i : Nat} (hi : i < n) : QLt (b + (c + 1 + b) * k + c + 1) (gj A k i j) := by
  obtain ⟨D, z, hr⟩ := h.rowB
  exact gj_bound hk ns hr hc hi
end El
namespace Dh
open PySem PySem.Spec L2 PySem.W
/-- a spring that can be asked m times more -/
def Vs (m : Nat) (s : Sto) : Prop := ∃ a b c : Int, s = [a, b, c] ∧ 0 ≤ b ∧ b < 2147483579 ∧ 0 ≤ c ∧ c + (m : Int) ≤ 1099511627776
theorem Vs.mono {m n : Nat} {s : Sto} (h : Vs n s) (k : m ≤ n := by omega) : Vs m s := by
  obtain ⟨a, b, c, e, h1, h2, h3, h4⟩ := h
  exact ⟨a, b, c, e, h1, h2, h3, by omega⟩
theorem lit40 : (2 : Nat) ^ 40 = 1099511627776 := by decide
theorem lt40 {i : Int} (h0 : 0 ≤ i) (h : i < 1099511627776) : i.natAbs < 2 ^ 40 := by rw [lit40]; omega
theorem atI_ofNat {α : Type} {xs : List α} {i : Nat} (h : i < xs.length) : atI xs (i : Int) = xs[i]? := by
  unfold atI ixN
  have h1 : ¬ ((i : Int) < 0) := by omega
  have h2 : (i : Int) < (xs.length : Int) := by omega
  simp [h2]
theorem ixN_ofNat {n i : Nat} (h : i < n) : ixN n (i : Int) = some i := by
  unfold ixN
  have h2 : (i : Int) < (n : Int) := by omega
  simp [h2]
theorem atI_pick {α : Type} {xs : List α} {d : Int} (h0 : 0 ≤ d) (h : d < xs.length) : ∃ x ∈ xs, atI xs d = some x := by
  obtain ⟨n, rfl⟩ := Int.eq_ofNat_of_zero_le h0
  have hn : n < xs.length := by omega
  exact ⟨xs[n], List.getElem_mem hn, by rw [show ((n : Nat) : Int) = (n : Int) from rfl, atI_ofNat hn, List.getElem?_eq_getElem hn]⟩
theorem gFdiv_small {i j : Int} (h : 0 < j) (hl : j.natAbs < 2 ^ 40) : gFdiv i j = some (.int (i / j)) := gFdiv_pos h (lt_monoB hl (by decide))
theorem range1_nat {n : Nat} (h : n ≤ 1000) : range1 [.d (.int (n : Int))] = some ((List.range n).map fun i => PyData.int (i : Nat)) := by
  unfold range1
  simp [rangeL, show (-4611686018427387904 : Int) ≤ (n : Int) by omega, show (n : Int) < 4611686018427387904 by omega]
theorem range_at {n i x : Nat} (h : (List.range n)[i]? = some x) : x = i ∧ i < n := by
  obtain ⟨h1, h2⟩ := List.getElem?_eq_some_iff.mp h
  rw [List.getElem_range] at h2
  rw [List.length_range] at h1
  exact ⟨h2.symm, h1⟩
end Dh
namespace WW
open PySem PySem.Spec L2 PySem.W Dh
theorem w_pick {l : Int} {s : Sto} {m : Nat} (v : Vs (m + 1) s) (h : 0 < l) (hl : l < 1099511627776) : WF f_law_pick [.s, .d (.int l)] s fun r s' => ∃ d : Int, r = .d (.int d) ∧ 0 ≤ d ∧ d < l ∧ Vs m s' := by
  obtain ⟨a, b, c, rfl, h1, h2, h3, h4⟩ := v
  refine WF.body rfl ?_
  have l0 : l ≠ 0 := by omega
  by_cases ha : 0 < a
  · have p : Builtin.divisionGoesByPylong a l = false := pylong_of (lt_monoB (a := 40) (lt40 (by omega) hl) (by decide))
    simp [m_law_pick, ha, List.replicate_succ, fDivmod, h, p, ixN]
    exact ⟨Int.emod_nonneg _ l0, Int.emod_lt_of_pos _ h, a / l, b, c, rfl, h1, h2, h3, by omega⟩
  · have m1 : mulOk b 40692 = true := mulOk_of (a := 31) (b := 16) (by omega) (by decide) (by decide)
    have m2 : mulOk 15013 (c + 1) = true := mulOk_of (a := 14) (b := 41) (by decide) (by omega) (by decide)
    simp [m_law_pick, ha, List.replicate_succ, putS, ixN, m1, m2, fMul_ok, gMod_pos]
    have x1 : 0 ≤ (b * 40692 + 15013 * (c + 1)) % 2147483579 := Int.emod_nonneg _ (by decide)
    have x2 : (b * 40692 + 15013 * (c + 1)) % 2147483579 < 2147483579 := Int.emod_lt_of_pos _ (by decide)
    generalize (b * 40692 + 15013 * (c + 1)) % 2147483579 = x at *
    have y1 : 0 ≤ x % 6007 := Int.emod_nonneg _ (by decide)
    have y2 : x % 6007 < 6007 := Int.emod_lt_of_pos _ (by decide)
    refine ⟨mulOk_of (a := 31) (b := 16) (by omega) (by omega) (by decide), ?_⟩
    have z1 : 0 ≤ (x * (x % 6007 + 20011) + (c + 1)) % 2147483579 := Int.emod_nonneg _ (by decide)
    have z2 : (x * (x % 6007 + 20011) + (c + 1)) % 2147483579 < 2147483579 := Int.emod_lt_of_pos _ (by decide)
    generalize (x * (x % 6007 + 20011) + (c + 1)) % 2147483579 = z at *
    simp [gFdiv_small (i := z) (j := 1013) (by decide) (by decide), gMod_pos h]
    exact ⟨Int.emod_nonneg _ l0, Int.emod_lt_of_pos _ h, a, z, c + 1, rfl, z1, z2, by omega, by omega⟩
theorem w_any {xs : List PyData} {s : Sto} {m : Nat} (v : Vs (m + 1) s) (h : 0 < xs.length) (hl : xs.length ≤ 1000) : WF f_law_any_of [.s, .d (.tuple xs)] s fun r s' => ∃ x ∈ xs, r = .d x ∧ Vs m s' := by
  refine WF.body rfl ?_
  simp [m_law_any_of]
  refine WF.use (w_pick v (by omega) (by omega)) ?_
  rintro _ s' ⟨d, rfl, h1, h2, v'⟩
  obtain ⟨x, hx, e⟩ := atI_pick h1 h2
  simp [e]
  exact ⟨x, hx, rfl, v'⟩
theorem w_part {s : Sto} {m : Nat} (v : Vs (m + 3) s) : WF f_law_part [.s] s fun r s' => ∃ q : Rat, r = .d (pQ q) ∧ 0 ≤ q ∧ q < 1 ∧ QLt 6 q ∧ Vs m s' := by
  refine WF.body rfl ?_
  simp [m_law_part, List.replicate_succ]
  refine WF.use (w_pick (m := m + 2) v (by decide) (by decide)) ?_
  rintro _ s1 ⟨d, rfl, h1, h2, v1⟩
  simp
  by_cases hd : d < 7
  · have key : ∃ q : Rat, atI [PyData.tuple [.int 1, .int 2], .tuple [.int 1, .int 2], .tuple [.int 1, .int 3], .tuple [.int 2, .int 3], .tuple [.int 3, .int 4], .tuple [.int 1, .int 4], .tuple [.int 0, .int 1]] d = some (pQ q) ∧ 0 ≤ q ∧ q < 1 ∧ QLt 6 q := by
      have : d = 0 ∨ d = 1 ∨ d = 2 ∨ d = 3 ∨ d = 4 ∨ d = 5 ∨ d = 6 := by omega
      rcases this with rfl | rfl | rfl | rfl | rfl | rfl | rfl
      · exact ⟨⟨1, 2, by decide, by decide⟩, rfl, by decide, by decide, by decide, by decide⟩
      · exact ⟨⟨1, 2, by decide, by decide⟩, rfl, by decide, by decide, by decide, by decide⟩
      · exact ⟨⟨1, 3, by decide, by decide⟩, rfl, by decide, by decide, by decide, by decide⟩
      · exact ⟨⟨2, 3, by decide, by decide⟩, rfl, by decide, by decide, by decide, by decide⟩
      · exact ⟨⟨3, 4, by decide, by decide⟩, rfl, by decide, by decide, by decide, by decide⟩
      · exact ⟨⟨1, 4, by decide, by decide⟩, rfl, by decide, by decide, by decide, by decide⟩
      · exact ⟨⟨0, 1, by decide, by decide⟩, rfl, by decide, by decide, by decide, by decide⟩
    obtain ⟨q, e, k1, k2, k3⟩ := key
    simp [hd, sz2, szle, e]
    exact ⟨q, rfl, k1, k2, k3, v1.mono⟩
  · simp [hd]
    refine WF.use (w_pick (m := m + 1) v1 (by decide) (by decide)) ?_
    rintro _ s2 ⟨u, rfl, h3, h4, v2⟩
    simp
    refine WF.use (w_pick (m := m) v2 (by omega) (by omega)) ?_
    rintro _ s3 ⟨t, rfl, h5, h6, v3⟩
    simp
    refine WF.of (e_frac0 (by omega) (lt_monoB (a := 6) (by omega) (by decide))) ?_
    simp
    refine ⟨Rat.divInt t (2 + u), rfl, Rat.divInt_nonneg h5 (by omega), ?_, QLt_divInt (by omega) (by omega) (by omega), v3⟩
    rw [Rat.divInt_eq_div, Rat.div_lt_iff (Rat.intCast_pos.mpr (by omega)), Rat.one_mul]
    exact Rat.intCast_lt_intCast.mpr h6
/-- a drawn row of numbers -/
theorem w_gains {p : Nat} {s : Sto} {m : Nat} (hp : p ≤ 100) (v : Vs (m + 3 * p) s) : WF f_law_gains [.s, .d (.int (p : Int))] s fun r s' => ∃ l : List Rat, r = .d (pQs l) ∧ l.length = p ∧ (∀ q ∈ l, QLt 25 q) ∧ Vs m s' := by
  refine WF.body rfl ?_
  simp [m_law_gains, List.replicate_succ, range1_nat (n := p) (by omega)]
  refine WFor_inv (fun i : Nat => PyData.int i) (List.range p) (fun i ρ s' => ∃ (l : List Rat) (c : Option Cl), ρ = [some .s, some (.d (.int (p : Int))), some (.o (l.map pQ)), c] ∧ l.length = i ∧ (∀ q ∈ l, QLt 25 q) ∧ Vs (m + 3 * (p - i)) s') ⟨[], none, rfl, rfl, by simp, v⟩ ?_ ?_
  · rintro i x ρ s' hx ⟨l, c, rfl, hl, hq, v⟩
    obtain ⟨rfl, hi⟩ := range_at hx
    simp
    refine WF.use (w_pick (m := m + 3 * (p - (x + 1)) + 2) (v.mono) (by decide) (by decide)) ?_
    rintro _ s1 ⟨d, rfl, h1, h2, v1⟩
    simp [fEq_int]
    by_cases hd : d = 13
    · simp [hd]
      refine WF.use (w_pick (m := m + 3 * (p - (x + 1)) + 1) v1 (by decide) (by decide)) ?_
      rintro _ s2 ⟨u, rfl, h3, h4, v2⟩
      simp
      refine WF.use (w_pick (m := m + 3 * (p - (x + 1))) v2 (by decide) (by decide)) ?_
      rintro _ s3 ⟨t, rfl, h5, h6, v3⟩
      simp
      refine WF.of (e_frac0 (by omega) (lt_monoB (a := 6) (by omega) (by decide))) ?_
      simp [hl, szlt (show x ≤ 1000 by omega)]
      exact ⟨l ++ [Rat.divInt (u - 10000000) (1 + t)], by simp, by simp [hl], fun q hq' => by
        rcases List.mem_append.mp hq' with h | h
        · exact hq q h
        · rw [List.mem_singleton.mp h]; exact QLt_divInt (by omega) (by omega) (by omega), v3⟩
    · simp [hd]
      refine WF.use (w_pick (m := m + 3 * (p - (x + 1)) + 1) v1 (by decide) (by decide)) ?_
      rintro _ s2 ⟨u, rfl, h3, h4, v2⟩
      simp [sz5]
      refine WF.use (w_any (m := m + 3 * (p - (x + 1))) v2 (by decide) (by decide)) ?_
      rintro _ s3 ⟨t, ht, rfl, v3⟩
      have : ∃ k : Int, t = .int k ∧ 1 ≤ k ∧ k ≤ 3 := by
        simp at ht
        rcases ht with rfl | rfl | rfl
        · exact ⟨1, rfl, by decide, by decide⟩
        · exact ⟨2, rfl, by decide, by decide⟩
        · exact ⟨3, rfl, by decide, by decide⟩
      obtain ⟨k, rfl, h5, h6⟩ := this
      simp
      refine WF.of (e_frac0 (by omega) (lt_monoB (a := 6) (by omega) (by decide))) ?_
      simp [hl, szlt (show x ≤ 1000 by omega)]
      exact ⟨l ++ [Rat.divInt (u - 3) k], by simp, by simp [hl], fun q hq' => by
        rcases List.mem_append.mp hq' with h | h
        · exact hq q h
        · rw [List.mem_singleton.mp h]; exact QLt_divInt (by omega) (by omega) (by omega), v3⟩
  · rintro ρ s' ⟨l, c, rfl, hl, hq, v⟩
    simp
    rw [List.length_range] at hl v
    exact ⟨l, rfl, hl, hq, v.mono⟩
end WW
namespace Dh
open PySem PySem.Spec L2 PySem.W
/-- a datum of numbers of at most B bits, so deep at most, of such a weight at most -/
structure Pn (B k w : Nat) (x : PyData) : Prop where
  nd : noDict x = true
  lay : PyData.canLay0 x = true
  dep : PyData.depth x ≤ k
  sh : PyData.showable x = true
  short : PyData.leavesShort (B + 1) x = true
  wt : PyData.bulk x ≤ w
theorem Pn.mono {B k k' w w' : Nat} {x : PyData} (h : Pn B k w x) (hk : k ≤ k' := by omega) (hw : w ≤ w' := by omega) : Pn B k' w' x := ⟨h.nd, h.lay, Nat.le_trans h.dep hk, h.sh, h.short, Nat.le_trans h.wt hw⟩
theorem int_text {i : Int} {B : Nat} (hB : 0 < B) (h : i.natAbs < 2 ^ B) : (PyData.shown (.int i)).length ≤ B + 1 := by
  have hl : i.natAbs.log2 < B := by
    by_cases z : i.natAbs = 0
    · rw [z]; simpa using hB
    · exact (Nat.log2_lt z).mpr h
  have e := int_text_length_le (a := i) hB hl
  show (Str.ofString (toString i)).length ≤ B + 1
  rw [ofString_length]
  exact e
theorem Pn.int0 {B : Nat} {i : Int} (hB : 0 < B) (hB2 : B ≤ 1900) (h : i.natAbs < 2 ^ B) : Pn B 0 0 (.int i) := by
  have hl : i.natAbs.log2 < B := by
    by_cases z : i.natAbs = 0
    · rw [z]; simpa using hB
    · exact (Nat.log2_lt z).mpr h
  refine ⟨rfl, rfl, Nat.le_refl _, ?_, ?_, ?_⟩
  · simp only [PyData.showable, decide_eq_true_eq]; omega
  · simp only [PyData.leavesShort, decide_eq_true_eq]
    exact int_text hB h
  · simp only [PyData.bulk]
    exact Nat.le_refl _
theorem Pn.int {B : Nat} {i : Int} (hB : 0 < B) (hB2 : B ≤ 1900) (h : i.natAbs < 2 ^ B) : Pn B 0 B (.int i) := (Pn.int0 hB hB2 h).mono
theorem all_nd : ∀ {xs : List PyData}, (∀ x ∈ xs, noDict x = true) → noDicts xs = true
  | [], _ => rfl
  | x :: xs, h => by
    simp only [noDicts, h x List.mem_cons_self, Bool.true_and]
    exact all_nd fun y hy => h y (List.mem_cons_of_mem _ hy)
theorem all_lay : ∀ {xs : List PyData}, (∀ x ∈ xs, PyData.canLay0 x = true) → PyData.canLayAll0 xs = true
  | [], _ => rfl
  | x :: xs, h => by
    simp only [PyData.canLayAll0, h x List.mem_cons_self, Bool.true_and]
    exact all_lay fun y hy => h y (List.mem_cons_of_mem _ hy)
theorem all_dep {k : Nat} : ∀ {xs : List PyData}, (∀ x ∈ xs, PyData.depth x ≤ k) → PyData.depthAll xs ≤ k
  | [], _ => Nat.zero_le _
  | x :: xs, h => by
    have a := h x List.mem_cons_self
    have b := all_dep fun y hy => h y (List.mem_cons_of_mem x hy)
    simp only [PyData.depthAll]; omega
theorem all_sh : ∀ {xs : List PyData}, (∀ x ∈ xs, PyData.showable x = true) → PyData.showableAll xs = true
  | [], _ => rfl
  | x :: xs, h => by
    simp only [PyData.showableAll, h x List.mem_cons_self, Bool.true_and]
    exact all_sh fun y hy => h y (List.mem_cons_of_mem _ hy)
theorem all_short {B : Nat} : ∀ {xs : List PyData}, (∀ x ∈ xs, PyData.leavesShort B x = true) → PyData.leavesShortAll B xs = true
  | [], _ => by simp [PyData.leavesShortAll]
  | x :: xs, h => by
    simp only [PyData.leavesShortAll, h x List.mem_cons_self, Bool.true_and]
    exact all_short fun y hy => h y (List.mem_cons_of_mem _ hy)
theorem all_wt {w : Nat} : ∀ {xs : List PyData}, (∀ x ∈ xs, PyData.bulk x ≤ w) → PyData.bulkAll xs ≤ xs.length * (w + 1)
  | [], _ => by simp [PyData.bulkAll]
  | x :: xs, h => by
    have a := h x List.mem_cons_self
    have b := all_wt fun y hy => h y (List.mem_cons_of_mem x hy)
    simp only [PyData.bulkAll, List.length_cons, Nat.add_mul]; omega
theorem Pn.tup {B k w n : Nat} {xs : List PyData} (h : ∀ x ∈ xs, Pn B k w x) (hn : xs.length ≤ n) : Pn B (k + 1) (n * (w + 1)) (.tuple xs) where
  nd := by simp only [noDict]; exact all_nd fun x hx => (h x hx).nd
  lay := by simp only [PyData.canLay0]; exact all_lay fun x hx => (h x hx).lay
  dep := by
    have := all_dep fun x hx => (h x hx).dep
    simp only [PyData.depth]; omega
  sh := by simp only [PyData.showable]; exact all_sh fun x hx => (h x hx).sh
  short := by simp only [PyData.leavesShort]; exact all_short fun x hx => (h x hx).short
  wt := by
    simp only [PyData.bulk]
    exact Nat.le_trans (all_wt fun x hx => (h x hx).wt) (Nat.mul_le_mul_right _ hn)
theorem Pn.lst {B k w n : Nat} {xs : List PyData} (h : ∀ x ∈ xs, Pn B k w x) (hn : xs.length ≤ n) : Pn B (k + 1) (n * (w + 1)) (.list xs) where
  nd := by simp only [noDict]; exact all_nd fun x hx => (h x hx).nd
  lay := by simp only [PyData.canLay0]; exact all_lay fun x hx => (h x hx).lay
  dep := by
    have := all_dep fun x hx => (h x hx).dep
    simp only [PyData.depth]; omega
  sh := by simp only [PyData.showable]; exact all_sh fun x hx => (h x hx).sh
  short := by simp only [PyData.leavesShort]; exact all_short fun x hx => (h x hx).short
  wt := by
    simp only [PyData.bulk]
    exact Nat.le_trans (all_wt fun x hx => (h x hx).wt) (Nat.mul_le_mul_right _ hn)
theorem Pn.q {B : Nat} {q : Rat} (hB : 0 < B) (hB2 : B ≤ 1900) (h : QLt B q) : Pn B 1 (2 * (B + 1)) (pQ q) :=
  Pn.tup (fun x hx => by
    simp at hx
    rcases hx with rfl | rfl
    · exact .int hB hB2 h.1
    · exact .int hB hB2 h.den') (Nat.le_refl _)
theorem Pn.qs {B n : Nat} {l : List Rat} (hB : 0 < B) (hB2 : B ≤ 1900) (h : ∀ q ∈ l, QLt B q) (hn : l.length ≤ n) : Pn B 2 (n * (2 * (B + 1) + 1)) (pQs l) :=
  Pn.tup (fun x hx => by obtain ⟨q, hq, rfl⟩ := List.mem_map.mp hx; exact .q hB hB2 (h q hq)) (by rw [List.length_map]; exact hn)
theorem Pn.eqOk {B k w : Nat} {x : PyData} (h : Pn B k w x) (hk : k ≤ 64) : Dh.eqOk x = true := by
  unfold Dh.eqOk SeqAt.shaped
  rw [h.nd, h.lay, decide_eq_true (Nat.le_trans h.dep hk)]
  rfl
theorem Pn.repr {B k w : Nat} {x : PyData} {r : R} (hx : rdD r = some x) (hs : isSeq x = true) (h : Pn B k w x) (hk : k ≤ 60) (hB : 8 ≤ B) (hw : (B + 3) * w + (B + 1) ≤ 16777216) : fRepr [r] = some (.d (.str (PyData.shown x))) := by
  have h1 : reprOk x = true := by
    unfold reprOk
    have l := PyData.shown_le_bulk (B + 1) (by omega) x h.short
    have l2 := Nat.mul_le_mul_left (B + 1 + 2) h.wt
    rw [show B + 1 + 2 = B + 3 by omega] at l l2
    rw [hs, h.nd, h.sh, decide_eq_true (Nat.le_trans h.dep hk), decide_eq_true (Nat.le_trans l (Nat.le_trans (by omega) (show 16777216 ≤ sizeLine by decide)))]
    rfl
  unfold fRepr
  dsimp only
  rw [hx]
  exact if_pos h1
structure RDeed where
  ch : List (Nat × Rat)
  gs : List Rat
structure RHouse where
  share : Rat
  pays : Nat
  stands : List (List RDeed)
def pCh (c : Nat × Rat) : PyData := .tuple [.int (c.1 : Nat), pQ c.2]
def pDeed (d : RDeed) : PyData := .tuple [.tuple (d.ch.map pCh), pQs d.gs]
def pStand (st : List RDeed) : PyData := .tuple (st.map pDeed)
def pHouse (h : RHouse) : PyData := .tuple [pQ h.share, .int (h.pays : Nat), .tuple (h.stands.map pStand)]
structure ChOk (n : Nat) (cs : List (Nat × Rat)) : Prop where
  asc : cs.Pairwise fun a b => a.1 < b.1
  each : ∀ c ∈ cs, c.1 < n ∧ 0 < c.2 ∧ QLt 10 c.2
  one : qsum (cs.map (·.2)) = 1
  cd : ∃ S : Nat, 0 < S ∧ S < 2 ^ 9 ∧ ∀ c ∈ cs, CD S S c.2
structure DeedOk (n p : Nat) (d : RDeed) (g : Nat := 25) : Prop where
  ch : ChOk n d.ch
  len : d.gs.length = p
  gain : ∀ q ∈ d.gs, QLt g q
structure HouseOk (N D P : Nat) (h : RHouse) (g : Nat := 25) : Prop where
  s0 : 0 ≤ h.share
  s1 : h.share < 1
  sb : QLt 6 h.share
  p1 : 1 ≤ h.pays
  pP : h.pays ≤ P
  n1 : 1 ≤ h.stands.length
  nN : h.stands.length ≤ N
  each : ∀ st ∈ h.stands, 1 ≤ st.length ∧ st.length ≤ D ∧ ∀ d ∈ st, DeedOk h.stands.length h.pays d g
/-- a choice of a house -/
def ChoiceOk (h : RHouse) (c : List Nat) : Prop := c.length = h.stands.length ∧ ∀ (i : Nat) (st : List RDeed) (k : Nat), h.stands[i]? = some st → c[i]? = some k → k < st.length
theorem asc_len : ∀ {n : Nat} {cs : List (Nat × Rat)} (m : Nat), cs.Pairwise (fun a b => a.1 < b.1) → (∀ c ∈ cs, m ≤ c.1 ∧ c.1 < n) → cs.length ≤ n - m
  | n, [], m, _, _ => Nat.zero_le _
  | n, c :: cs, m, h, hb => by
    rw [List.pairwise_cons] at h
    have a := hb c List.mem_cons_self
    have b := asc_len (c.1 + 1) h.2 fun x hx => ⟨h.1 x hx, (hb x (List.mem_cons_of_mem _ hx)).2⟩
    rw [List.length_cons]; omega
theorem ChOk.len {n : Nat} {cs : List (Nat × Rat)} (h : ChOk n cs) : cs.length ≤ n := by
  have := asc_len 0 h.asc fun c hc => ⟨Nat.zero_le _, (h.each c hc).1⟩
  omega
theorem ChOk.pn {n : Nat} {cs : List (Nat × Rat)} (h : ChOk n cs) (hn : n ≤ 9) : Pn 25 3 5000 (.tuple (cs.map pCh)) :=
  (Pn.tup (B := 25) (k := 2) (w := 200) (n := 9) (fun x hx => by
    obtain ⟨c, hc, rfl⟩ := List.mem_map.mp hx
    obtain ⟨h1, h2, h3⟩ := h.each c hc
    exact (Pn.tup (B := 25) (k := 1) (w := 52) (n := 2) (fun x hx => by
      simp at hx
      rcases hx with rfl | rfl
      · exact (Pn.int (by decide) (by decide) (by rw [Int.natAbs_natCast]; omega)).mono
      · exact .q (by decide) (by decide) (h3.mono (by decide))) (by simp)).mono) (by rw [List.length_map]; have := h.len; omega)).mono
theorem DeedOk.pn {n p : Nat} {d : RDeed} (h : DeedOk n p d) (hn : n ≤ 9) (hp : p ≤ 9) : Pn 25 4 10100 (pDeed d) :=
  (Pn.tup (B := 25) (k := 3) (w := 5000) (n := 2) (fun x hx => by
    simp at hx
    rcases hx with rfl | rfl
    · exact h.ch.pn hn
    · exact (Pn.qs (n := 9) (by decide) (by decide) h.gain (by rw [h.len]; exact hp)).mono) (by simp)).mono
end Dh
namespace Dh
open PySem PySem.Spec L2 PySem.W
def iN (k : Nat) : PyData := .int (k : Int)
theorem ints_iN : ∀ ns : List Nat, intsOf (ns.map iN) = some (ns.map fun n : Nat => (n : Int))
  | [] => rfl
  | n :: ns => by
    rw [List.map_cons]
    show (intsOf (ns.map iN)).map _ = _
    rw [ints_iN ns]
    rfl
theorem sum_cast : ∀ ns : List Nat, (ns.map fun n : Nat => (n : Int)).sum = ((ns.sum : Nat) : Int)
  | [] => rfl
  | n :: ns => by rw [List.map_cons, List.sum_cons, List.sum_cons, sum_cast ns]; omega
theorem fSum_b {ns : List Nat} : fSum [.b (ns.map iN)] = some (.d (.int ((ns.sum : Nat) : Int))) := by
  show (match rdL (.b (ns.map iN)) with | some xs => (intsOf xs).map fun is : List Int => R.d (.int is.sum) | none => none) = _
  rw [ev_rdL3]
  dsimp only
  rw [ints_iN, Option.map_some, sum_cast]
theorem sum_le {b : Nat} : ∀ ns : List Nat, (∀ n ∈ ns, n ≤ b) → ns.sum ≤ ns.length * b
  | [], _ => by simp
  | n :: ns, h => by
    have a := h n List.mem_cons_self
    have c := sum_le ns fun x hx => h x (List.mem_cons_of_mem _ hx)
    rw [List.sum_cons, List.length_cons, Nat.add_mul]; omega
theorem le_sum : ∀ {ns : List Nat} {n : Nat}, n ∈ ns → n ≤ ns.sum
  | m :: ns, n, h => by
    rw [List.sum_cons]
    rcases List.mem_cons.mp h with rfl | h
    · omega
    · have := le_sum h; omega
theorem qsum_append {a b : List Rat} : qsum (a ++ b) = qsum a + qsum b := by
  induction b using snoc_ind with
  | nil => rw [List.append_nil]; simp [qsum]; grind
  | snoc b x ih => rw [← List.append_assoc, qsum_snoc, qsum_snoc, ih]; grind
/-- the chances that parts make -/
def chL (ns : List Nat) (k : Nat) : List (Nat × Rat) := (List.range k).filterMap fun i => if 0 < ns.getD i 0 then some (i, Rat.divInt (ns.getD i 0 : Nat) (ns.sum : Nat)) else none
theorem divInt_add {a b S : Int} : Rat.divInt a S + Rat.divInt b S = Rat.divInt (a + b) S := by
  rw [Rat.divInt_eq_div, Rat.divInt_eq_div, Rat.divInt_eq_div, Rat.intCast_add, Rat.div_def, Rat.div_def, Rat.div_def]
  grind
theorem chL_sum (ns : List Nat) : ∀ k, k ≤ ns.length → qsum ((chL ns k).map (·.2)) = Rat.divInt ((ns.take k).sum : Nat) (ns.sum : Nat)
  | 0, _ => by simp [chL, qsum]
  | k + 1, h => by
    have ih := chL_sum ns k (by omega)
    have hk : ns[k]? = some ns[k] := List.getElem?_eq_getElem (by omega)
    have e : ns.getD k 0 = ns[k] := by rw [List.getD_eq_getElem?_getD, hk]; rfl
    unfold chL at ih ⊢
    rw [List.range_succ, List.filterMap_append, List.map_append, qsum_append, ih, take_snoc hk, List.sum_append]
    simp only [List.filterMap_cons, List.filterMap_nil, e]
    by_cases hp : 0 < ns[k]
    · rw [if_pos hp]
      simp only [List.map_cons, List.map_nil]
      rw [show qsum [Rat.divInt (ns[k] : Nat) (ns.sum : Nat)] = Rat.divInt (ns[k] : Nat) (ns.sum : Nat) by simp [qsum]; grind, divInt_add]
      simp
    · rw [if_neg hp]
      have : ns[k] = 0 := by omega
      simp [qsum, this]
      grind
theorem CD_divInt {a S : Nat} (hS : 0 < S) (h : a ≤ S) : CD S S (Rat.divInt (a : Nat) (S : Nat)) := by
  refine ⟨a, ?_, by simpa using h⟩
  have e : (S : Rat) ≠ 0 := by rw [Ne, Rat.natCast_eq_zero_iff]; omega
  rw [Rat.divInt_eq_div, Rat.div_def, Rat.intCast_natCast, Rat.intCast_natCast, Rat.mul_comm, Rat.mul_assoc, Rat.inv_mul_cancel _ e, Rat.mul_one]
theorem chL_ok {ns : List Nat} (hs : 0 < ns.sum) (hb : ∀ n ∈ ns, n ≤ 43) (hl : ns.length ≤ 9) : ChOk ns.length (chL ns ns.length) where
  asc := by
    unfold chL
    rw [List.pairwise_filterMap]
    refine List.Pairwise.imp ?_ (List.pairwise_lt_range)
    intro a b hab x hx y hy
    split at hx
    · split at hy
      · cases hx; cases hy; exact hab
      · cases hy
    · cases hx
  each := fun c hc => by
    unfold chL at hc
    rw [List.mem_filterMap] at hc
    obtain ⟨i, hi, e⟩ := hc
    rw [List.mem_range] at hi
    split at e
    · rename_i hp
      cases e
      have hm : ns.getD i 0 ∈ ns := by
        rw [List.getD_eq_getElem?_getD, List.getElem?_eq_getElem hi]
        exact List.getElem_mem hi
      have h1 := le_sum hm
      have h2 := sum_le ns hb
      have h3 : ns.length * 43 ≤ 9 * 43 := Nat.mul_le_mul_right _ hl
      refine ⟨hi, ?_, QLt_divInt (by omega) (by omega) (by omega)⟩
      rw [Rat.divInt_eq_div, Rat.lt_div_iff (Rat.intCast_pos.mpr (by omega)), Rat.zero_mul]
      exact Rat.intCast_pos.mpr (by omega)
    · cases e
  one := by
    rw [chL_sum ns _ (Nat.le_refl _), List.take_length]
    exact Rat.divInt_self' (by omega)
  cd := by
    have h2 := sum_le ns hb
    have h3 : ns.length * 43 ≤ 9 * 43 := Nat.mul_le_mul_right _ hl
    refine ⟨ns.sum, hs, by omega, fun c hc => ?_⟩
    unfold chL at hc
    rw [List.mem_filterMap] at hc
    obtain ⟨i, hi, e⟩ := hc
    rw [List.mem_range] at hi
    split at e
    · cases e
      have hm : ns.getD i 0 ∈ ns := by
        rw [List.getD_eq_getElem?_getD, List.getElem?_eq_getElem hi]
        exact List.getElem_mem hi
      exact CD_divInt hs (le_sum hm)
    · cases e
end Dh
namespace WW
open PySem PySem.Spec L2 PySem.W Dh
theorem w_parts {n : Nat} {s : Sto} {m : Nat} (h1 : 1 ≤ n) (h9 : n ≤ 9) (v : Vs (m + 2 * n + 1) s) : WF f_law_parts [.s, .d (.int (n : Int))] s fun r s' => ∃ ns : List Nat, r = .f (ns.map iN) ∧ ns.length = n ∧ (∀ k ∈ ns, k ≤ 43) ∧ 0 < ns.sum ∧ Vs m s' := by
  refine WF.body rfl ?_
  simp [m_law_parts, List.replicate_succ, range1_nat (n := n) (by omega)]
  refine WFor_inv (fun i : Nat => PyData.int i) (List.range n) (fun i ρ s' => ∃ (ns : List Nat) (c d : Option Cl), ρ = [some .s, some (.d (.int (n : Int))), some (.o (ns.map iN)), c, d] ∧ ns.length = i ∧ (∀ k ∈ ns, k ≤ 43) ∧ Vs (m + 1 + 2 * (n - i)) s') ⟨[], none, none, rfl, rfl, by simp, v.mono⟩ ?_ ?_
  · rintro i x ρ s' hx ⟨ns, c, d, rfl, hl, hq, v⟩
    obtain ⟨rfl, hi⟩ := range_at hx
    simp
    refine WF.use (w_pick (m := m + 1 + 2 * (n - (x + 1)) + 1) v.mono (by decide) (by decide)) ?_
    rintro _ s1 ⟨d, rfl, g1, g2, v1⟩
    simp
    by_cases hd : d < 12
    · have key : ∃ k : Nat, atI [PyData.int 0, .int 1, .int 0, .int 1, .int 2, .int 0, .int 1, .int 3, .int 0, .int 1, .int 2, .int 0] d = some (iN k) ∧ k ≤ 43 := by
        obtain ⟨e, he, e2⟩ := atI_pick (xs := [PyData.int 0, .int 1, .int 0, .int 1, .int 2, .int 0, .int 1, .int 3, .int 0, .int 1, .int 2, .int 0]) g1 (by simpa using hd)
        rw [e2]
        simp at he
        rcases he with rfl | rfl | rfl | rfl | rfl | rfl | rfl | rfl | rfl | rfl | rfl | rfl <;> first | exact ⟨0, rfl, by omega⟩ | exact ⟨1, rfl, by omega⟩ | exact ⟨2, rfl, by omega⟩ | exact ⟨3, rfl, by omega⟩
      obtain ⟨k, e, hk⟩ := key
      simp [hd, szle, e, hl, szlt (show x ≤ 1000 by omega)]
      exact ⟨ns ++ [k], by simp, by simp [hl], fun z hz => by
        rcases List.mem_append.mp hz with h | h
        · exact hq z h
        · rw [List.mem_singleton.mp h]; exact hk, v1.mono⟩
    · simp [hd]
      refine WF.use (w_pick (m := m + 1 + 2 * (n - (x + 1))) v1 (by decide) (by decide)) ?_
      rintro _ s2 ⟨u, rfl, g3, g4, v2⟩
      simp [hl, szlt (show x ≤ 1000 by omega)]
      refine ⟨ns ++ [(4 + u).toNat], by simp [iN]; omega, by simp [hl], fun z hz => ?_, v2⟩
      rcases List.mem_append.mp hz with h | h
      · exact hq z h
      · rw [List.mem_singleton.mp h]; omega
  · rintro ρ s' ⟨ns, c, d, rfl, hl, hq, v⟩
    rw [List.length_range] at hl v
    simp [fSum_b, fEq_int]
    by_cases hz : ns.sum = 0
    · have hz' : (ns.sum : Int) = 0 := by omega
      simp [hz]
      refine WF.use (w_pick (m := m) v.mono (by omega) (by omega)) ?_
      rintro _ s1 ⟨d, rfl, g1, g2, v1⟩
      obtain ⟨e, rfl⟩ := Int.eq_ofNat_of_zero_le g1
      have he : e < ns.length := by omega
      simp [Dh.putL, ixN_ofNat (n := ns.length) he]
      refine ⟨ns.set e 1, by rw [List.map_set]; rfl, by simp [hl], fun k hk => ?_, ?_, v1⟩
      · rcases List.mem_or_eq_of_mem_set hk with h | h
        · exact hq k h
        · omega
      · have : 1 ∈ ns.set e 1 := List.mem_set he 1
        have := le_sum this
        omega
    · simp [hz]
      exact ⟨ns, rfl, hl, hq, by omega, v.mono⟩
theorem w_chances {n : Nat} {s : Sto} {m : Nat} (h1 : 1 ≤ n) (h9 : n ≤ 9) (v : Vs (m + 2 * n + 1) s) : WF f_law_chances [.s, .d (.int (n : Int))] s fun r s' => ∃ cs : List (Nat × Rat), r = .d (.tuple (cs.map pCh)) ∧ ChOk n cs ∧ Vs m s' := by
  refine WF.body rfl ?_
  simp [m_law_chances, List.replicate_succ]
  refine WF.use (w_parts h1 h9 v) ?_
  rintro _ s1 ⟨ns, rfl, hl, hq, hs, v1⟩
  simp [range1_nat (n := n) (by omega)]
  refine WLc_opt (fun i : Nat => PyData.int i) (fun i => if 0 < ns.getD i 0 then some (pCh (i, Rat.divInt (ns.getD i 0 : Nat) (ns.sum : Nat))) else none) (List.range n) (fun i hi => ?_) ?_
  · rw [List.mem_range] at hi
    have hi' : i < ns.length := by omega
    have e : ns.getD i 0 = ns[i] := by rw [List.getD_eq_getElem?_getD, List.getElem?_eq_getElem hi']; rfl
    have ea : atI (ns.map iN) (i : Int) = some (.int (ns[i] : Nat)) := by
      rw [atI_ofNat (by rw [List.length_map]; exact hi'), List.getElem?_map, List.getElem?_eq_getElem hi']; rfl
    have hm : ns[i] ∈ ns := List.getElem_mem hi'
    have h2 := sum_le ns hq
    have h3 : ns.length * 43 ≤ 9 * 43 := Nat.mul_le_mul_right _ (by omega)
    rw [e]
    by_cases hp : 0 < ns[i]
    · simp [ea, hp, fSum_b]
      refine WF.of (e_frac0 (by omega) (lt_monoB (a := 10) (by omega) (by decide))) ?_
      simp [sz2, pCh]
      omega
    · simp [ea, hp]
  · have e : (List.range n).filterMap (fun i => if 0 < ns.getD i 0 then some (pCh (i, Rat.divInt (ns.getD i 0 : Nat) (ns.sum : Nat))) else none) = (chL ns ns.length).map pCh := by
      unfold chL
      rw [List.map_filterMap, hl]
      congr 1
      funext i
      split <;> rfl
    rw [e]
    have ok := chL_ok hs hq (by omega)
    have hlen := ok.len
    refine ⟨szle (by rw [List.length_map]; omega), ?_⟩
    simp
    exact ⟨_, rfl, hl ▸ ok, v1⟩
end WW
namespace Dh
open PySem PySem.Spec L2 PySem.W
theorem fEq_nil {xs : List PyData} {B k w : Nat} (h : Pn B k w (.list xs)) (hk : k ≤ 64) : fEq true (.b xs) (.f []) = some (.d (.bool (!xs.isEmpty))) := by
  have a := h.eqOk hk
  have b : eqOk (.list []) = true := by decide
  show (if eqOk (.list xs) = true ∧ eqOk (.list []) = true then some (R.d (.bool (if true then !PyData.eqv (.list xs) (.list []) else PyData.eqv (.list xs) (.list [])))) else none) = _
  rw [if_pos ⟨a, b⟩]
  cases xs <;> simp [PyData.eqv, PyData.eqvAll]
/-- the counts of a house's deeds -/
def counts (h : RHouse) : List Nat := h.stands.map (·.length)
theorem getElem_map_some {α β : Type} {f : α → β} {l : List α} {i : Nat} {x : α} (h : l[i]? = some x) : (l.map f)[i]? = some (f x) := by rw [List.getElem?_map, h]; rfl
end Dh
namespace WW
open PySem PySem.Spec L2 PySem.W Dh
theorem w_sized {cs : List Nat} {p : Nat} {s : Sto} {m : Nat} (hn1 : 1 ≤ cs.length) (hn9 : cs.length ≤ 9) (hp1 : 1 ≤ p) (hp5 : p ≤ 5) {D : Nat} (hc : ∀ k ∈ cs, 1 ≤ k ∧ k ≤ D) (hD : D ≤ 5) (v : Vs (m + 3 + 200 * cs.length) s) :
    WF f_law_sized [.s, .d (.list (cs.map iN)), .d (.int (p : Int))] s fun r s' => ∃ h : RHouse, r = .d (pHouse h) ∧ HouseOk 9 D 5 h ∧ h.pays = p ∧ counts h = cs ∧ Vs m s' := by
  refine WF.body rfl ?_
  simp [m_law_sized, List.replicate_succ]
  refine WF.use (w_part (m := m + 200 * cs.length) v.mono) ?_
  rintro _ s1 ⟨sh, rfl, hs0, hs1, hsb, v1⟩
  simp
  refine WFor_inv iN cs (fun i ρ s' => ∃ (sts : List (List RDeed)) (a b c d : Option Cl), ρ = [some .s, some (.d (.list (cs.map iN))), some (.d (.int (p : Int))), some (.d (pQ sh)), some (.o (sts.map pStand)), a, b, c, d] ∧
    sts.map (·.length) = cs.take i ∧ (∀ st ∈ sts, ∀ d ∈ st, DeedOk cs.length p d) ∧ Vs (m + 200 * (cs.length - i)) s') ⟨[], none, none, none, none, rfl, by simp, by simp, v1⟩ ?_ ?_
  · rintro i k ρ s' hk ⟨sts, a, b, c, d, rfl, hl, hd, v⟩
    have hkc := hc k (List.mem_of_getElem? hk)
    have hi : i < cs.length := (List.getElem?_eq_some_iff.mp hk).1
    have hsl : sts.length = i := by
      have := congrArg List.length hl
      rw [List.length_map, List.length_take] at this; omega
    simp [iN, range1_nat (n := k) (by omega)]
    refine WFor_inv (fun i : Nat => PyData.int i) (List.range k) (fun j ρ s' => ∃ (st : List RDeed) (c d : Option Cl), ρ = [some .s, some (.d (.list (cs.map iN))), some (.d (.int (p : Int))), some (.d (pQ sh)), some (.o (sts.map pStand)), some (.d (.int (k : Int))), some (.o (st.map pDeed)), c, d] ∧
      st.length = j ∧ (∀ d ∈ st, DeedOk cs.length p d) ∧ Vs (m + 200 * (cs.length - (i + 1)) + 40 * (k - j)) s') ⟨[], c, d, rfl, rfl, by simp, v.mono⟩ ?_ ?_
    · rintro j x ρ s2 hx ⟨st, c, d, rfl, hst, hdo, v⟩
      obtain ⟨rfl, hj⟩ := range_at hx
      have pn : Pn 25 5 60000 (.list (st.map pDeed)) := (Pn.lst (n := 5) (fun y hy => by
        obtain ⟨d, hd, rfl⟩ := List.mem_map.mp hy
        exact (hdo d hd).pn hn9 (by omega)) (by rw [List.length_map]; omega)).mono
      -- a new deed
      have new : ∀ {s3 : Sto}, Vs (m + 200 * (cs.length - (i + 1)) + 40 * (k - (x + 1)) + 34) s3 → WF f_law_chances [.s, .d (.int (cs.length : Int))] s3 fun r s4 => ∃ ch : List (Nat × Rat), r = .d (.tuple (ch.map pCh)) ∧ ChOk cs.length ch ∧ Vs (m + 200 * (cs.length - (i + 1)) + 40 * (k - (x + 1)) + 3 * p) s4 := fun v => w_chances hn1 hn9 v.mono
      simp [fEq_nil pn (by decide)]
      cases st with
      | nil =>
        simp
        refine WF.use (new v.mono) ?_
        rintro _ s4 ⟨ch, rfl, hch, v4⟩
        simp
        refine WF.use (w_gains (p := p) (by omega) v4) ?_
        rintro _ s5 ⟨gs, rfl, hgl, hgb, v5⟩
        simp [sz2, szlt (show 0 ≤ 1000 by omega)]
        exact ⟨[⟨ch, gs⟩], by simp [pDeed], by simpa using hst.symm, by simpa using ⟨hch, hgl, hgb⟩, v5⟩
      | cons d0 st =>
        simp
        refine WF.use (w_pick (m := m + 200 * (cs.length - (i + 1)) + 40 * (k - (x + 1)) + 39) v.mono (by decide) (by decide)) ?_
        rintro _ s3 ⟨u, rfl, h1, h2, v3⟩
        simp [fEq_int]
        have hlen : st.length + 1 = x := by simpa using hst
        by_cases hu : u = 8
        · simp [hu]
          refine ⟨szlt (by omega), (d0 :: st) ++ [d0], by simp, by simp [hlen], fun y hy => ?_, v3.mono⟩
          rcases List.mem_append.mp hy with hy | hy
          · exact hdo y hy
          · rw [List.mem_singleton.mp hy]; exact hdo d0 List.mem_cons_self
        · simp [hu]
          refine WF.use (new v3.mono) ?_
          rintro _ s4 ⟨ch, rfl, hch, v4⟩
          simp
          refine WF.use (w_gains (p := p) (by omega) v4) ?_
          rintro _ s5 ⟨gs, rfl, hgl, hgb, v5⟩
          simp [sz2]
          refine ⟨szlt (by omega), (d0 :: st) ++ [⟨ch, gs⟩], by simp [pDeed], by simp [hlen], fun y hy => ?_, v5⟩
          rcases List.mem_append.mp hy with hy | hy
          · exact hdo y hy
          · rw [List.mem_singleton.mp hy]; exact ⟨hch, hgl, hgb⟩
    · rintro ρ s2 ⟨st, c, d, rfl, hst, hdo, v⟩
      rw [List.length_range] at hst v
      simp [hsl, szlt (show i ≤ 1000 by omega)]
      refine ⟨sts ++ [st], by simp [pStand], ?_, fun y hy => ?_, v.mono⟩
      · rw [List.map_append, hl, take_snoc hk, List.map_singleton, hst]
      · rcases List.mem_append.mp hy with hy | hy
        · exact hd y hy
        · rw [List.mem_singleton.mp hy]; exact hdo
  · rintro ρ s' ⟨sts, a, b, c, d, rfl, hl, hd, v⟩
    rw [List.take_length] at hl
    have hsl : sts.length = cs.length := by
      have := congrArg List.length hl
      rwa [List.length_map] at this
    simp [sz3]
    refine ⟨⟨sh, p, sts⟩, rfl, ⟨hs0, hs1, hsb, hp1, hp5, by rw [hsl]; exact hn1, by rw [hsl]; exact hn9, fun st hst => ?_⟩, rfl, hl, v.mono⟩
    have := hc st.length (by rw [← hl]; exact List.mem_map_of_mem hst)
    exact ⟨this.1, this.2, by rw [hsl]; exact hd st hst⟩
theorem w_world {p N D : Nat} {s : Sto} {m : Nat} (hN : 1 ≤ N) (hN9 : N ≤ 9) (hp1 : 1 ≤ p) (hp5 : p ≤ 5) (hD1 : 1 ≤ D) (hD : D ≤ 5) (v : Vs (m + 2000) s) :
    WF f_law_world [.s, .d (.int (N : Int)), .d (.int (D : Int)), .d (.int (p : Int))] s fun r s' => ∃ h : RHouse, r = .d (pHouse h) ∧ HouseOk N D 5 h ∧ h.pays = p ∧ Vs m s' := by
  refine WF.body rfl ?_
  simp [m_law_world, List.replicate_succ]
  refine WF.use (w_pick (m := m + 1999) v (by omega) (by omega)) ?_
  rintro _ s1 ⟨u, rfl, h1, h2, v1⟩
  obtain ⟨k, rfl⟩ := Int.eq_ofNat_of_zero_le h1
  have e : range1 [.d (.int (1 + (k : Int)))] = _ := range1_nat (n := 1 + k) (by omega)
  simp [e]
  refine WFor_inv (fun i : Nat => PyData.int i) (List.range (1 + k)) (fun j ρ s' => ∃ (cs : List Nat) (c : Option Cl), ρ = [some .s, some (.d (.int (N : Int))), some (.d (.int (D : Int))), some (.d (.int (p : Int))), some (.o (cs.map iN)), c] ∧
      cs.length = j ∧ (∀ k ∈ cs, 1 ≤ k ∧ k ≤ D) ∧ Vs (m + 1900 + (1 + k - j)) s') ⟨[], none, rfl, rfl, by simp, v1.mono⟩ ?_ ?_
  · rintro j x ρ s2 hx ⟨cs, c, rfl, hl, hq, v⟩
    obtain ⟨rfl, hj⟩ := range_at hx
    simp
    refine WF.use (w_pick (m := m + 1900 + (1 + k - (x + 1))) v.mono (by omega) (by omega)) ?_
    rintro _ s3 ⟨t, rfl, h3, h4, v3⟩
    obtain ⟨t, rfl⟩ := Int.eq_ofNat_of_zero_le h3
    simp [hl, szlt (show x ≤ 1000 by omega)]
    refine ⟨cs ++ [1 + t], by simp [iN], by simp [hl], fun y hy => ?_, v3⟩
    rcases List.mem_append.mp hy with hy | hy
    · exact hq y hy
    · rw [List.mem_singleton.mp hy]; omega
  · rintro ρ s2 ⟨cs, c, rfl, hl, hq, v⟩
    rw [List.length_range] at hl v
    simp [frzs, frz1]
    refine WF.use (w_sized (m := m) (cs := cs) (p := p) (by omega) (by omega) hp1 hp5 hq hD v.mono) ?_
    rintro _ s3 ⟨h, rfl, ok, hp, hcs, v3⟩
    simp
    have hlen : h.stands.length = cs.length := by rw [← hcs]; simp [counts]
    exact ⟨h, rfl, ⟨ok.s0, ok.s1, ok.sb, ok.p1, ok.pP, ok.n1, by omega, ok.each⟩, hp, v3⟩
end WW
namespace Dh
open PySem PySem.Spec L2 PySem.W
theorem bools_true {α : Type} : ∀ l : List α, boolsOf (l.map fun _ => PyData.bool true) = some (l.map fun _ => true)
  | [] => rfl
  | x :: l => by
    rw [List.map_cons]
    show (boolsOf (l.map fun _ => PyData.bool true)).map _ = _
    rw [bools_true l]
    rfl
theorem fAll_true {α : Type} {l : List α} : fAll [.f (l.map fun _ => PyData.bool true)] = some (.d (.bool true)) := by
  show (match rdL (.f (l.map fun _ => PyData.bool true)) with | some xs => (boolsOf xs).map fun bs : List Bool => R.d (.bool (bs.all id)) | none => none) = _
  rw [ev_rdL2]
  dsimp only
  rw [bools_true, Option.map_some]
  congr 3
  rw [List.all_eq_true]
  intro x hx
  obtain ⟨_, _, rfl⟩ := List.mem_map.mp hx
  rfl
theorem cutD_tail {xs : List PyData} : cutD xs (some 1) none = xs.drop 1 := by
  unfold cutD
  have h : HT.sIx xs.length 0 (some 1) = min 1 xs.length := by
    unfold HT.sIx
    cases xs with
    | nil => simp
    | cons x xs => simp; try omega
  have h2 : HT.sIx xs.length xs.length none = xs.length := by
    unfold HT.sIx
    rfl
  rw [h, h2]
  cases xs with
  | nil => rfl
  | cons x xs =>
    have : min 1 (x :: xs).length = 1 := by rw [List.length_cons]; omega
    rw [this]
    simp
theorem pw_tail {α : Type} {r : α → α → Prop} : ∀ {l : List α}, l.Pairwise r → ∀ p ∈ l.zip l.tail, r p.1 p.2
  | [], _, p, hp => by simp at hp
  | [x], _, p, hp => by simp at hp
  | x :: y :: l, h, p, hp => by
    rw [List.tail_cons, List.zip_cons_cons] at hp
    rcases List.mem_cons.mp hp with rfl | hp
    · exact (List.pairwise_cons.mp h).1 y List.mem_cons_self
    · exact pw_tail (List.pairwise_cons.mp h).2 p hp
@[simp] theorem ev_enum1 {x : R} : enum1 [x] = (itemsOf x).map numbered := rfl
end Dh
namespace WW
open PySem PySem.Spec L2 PySem.W Dh
theorem e_is_whole {i : Int} {s : Sto} : f_is_whole [.d (.int i)] s = some (.d (.bool true), s) := by
  refine WF.eq (WF.body rfl ?_)
  simp [m_is_whole]
theorem e_is_between {i lo hi : Int} {s : Sto} (h1 : lo ≤ i) (h2 : i ≤ hi) : f_is_between [.d (.int i), .d (.int lo), .d (.int hi)] s = some (.d (.bool true), s) := by
  refine WF.eq (WF.body rfl ?_)
  simp [m_is_between]
  refine WF.of e_is_whole ?_
  simp [h1, h2]
theorem e_is_tuple_of {xs : List PyData} {n : Int} {s : Sto} (h : (xs.length : Int) = n) : f_is_tuple_of [.d (.tuple xs), .d (.int n)] s = some (.d (.bool true), s) := by
  refine WF.eq (WF.body rfl ?_)
  simp [m_is_tuple_of, fEq_int, h]
theorem e_is_ratio {q : Rat} {s : Sto} : f_is_ratio [.d (pQ q)] s = some (.d (.bool true), s) := by
  refine WF.eq (WF.body rfl ?_)
  simp [m_is_ratio]
  refine WF.of (e_is_tuple_of rfl) ?_
  simp [pQ]
  refine WF.of e_is_whole ?_
  simp
  refine WF.of e_is_whole ?_
  have h := q.den_pos
  have r := q.reduced
  unfold Nat.Coprime at r
  simp [h, fEq_int, r]
theorem e_is_row {l : List Rat} {n : Int} {s : Sto} (h : (l.length : Int) = n) (hl : l.length ≤ 1000) : f_is_row [.d (pQs l), .d (.int n)] s = some (.d (.bool true), s) := by
  refine WF.eq (WF.body rfl ?_)
  simp [m_is_row, List.replicate_succ, pQs]
  refine WF.of (e_is_tuple_of (by rw [List.length_map]; exact h)) ?_
  simp
  refine WLc_map pQ (fun _ => PyData.bool true) l (fun x hx => ?_) ?_
  · simp
    exact WF.of e_is_ratio (by simp)
  · refine ⟨szle (by rw [List.length_map]; exact hl), ?_⟩
    simp [fAll_true]
theorem e_are_chances {n : Nat} {cs : List (Nat × Rat)} {s : Sto} (h : ChOk n cs) (hn : n ≤ 9) : f_are_chances [.d (.tuple (cs.map pCh)), .d (.int (n : Int))] s = some (.d (.bool true), s) := by
  have hl := h.len
  refine WF.eq (WF.body rfl ?_)
  simp [m_are_chances, List.replicate_succ]
  refine WLc_map pCh (fun _ => PyData.bool true) cs (fun x hx => ?_) ?_
  · simp [pCh]
    exact WF.of (e_is_tuple_of rfl) (by simp)
  refine ⟨szle (by rw [List.length_map]; omega), ?_⟩
  simp [fAll_true]
  refine WLc_map pCh (fun _ => PyData.bool true) cs (fun x hx => ?_) ?_
  · obtain ⟨h1, h2, h3⟩ := h.each x hx
    simp [pCh]
    refine WF.of (e_is_between (by omega) (by omega)) ?_
    simp
    refine WF.of e_is_ratio ?_
    simp [pQ]
    have a := Rat.num_nonneg.mpr (Rat.le_of_lt h2)
    have b : x.2.num ≠ 0 := fun z => Rat.ne_of_gt h2 (Rat.num_eq_zero.mp z)
    omega
  refine ⟨szle (by rw [List.length_map]; omega), ?_⟩
  simp [fAll_true]
  refine WLc_map pCh (fun c => PyData.int (c.1 : Nat)) cs (fun x hx => ?_) ?_
  · simp [pCh]
  refine ⟨szle (by rw [List.length_map]; omega), ?_⟩
  simp [frzs, frz1, fSl, cutD_tail]
  rw [← List.map_tail, pairs_map]
  refine WLc_map (p2 (fun c : Nat × Rat => PyData.int (c.1 : Nat)) (fun c : Nat × Rat => PyData.int (c.1 : Nat))) (fun _ => PyData.bool true) (cs.zip cs.tail) (fun x hx => ?_) ?_
  · have := pw_tail h.asc x hx
    simp [p2, this]
  refine ⟨szle (by rw [List.length_map, List.length_zip]; omega), ?_⟩
  simp [fAll_true]
  refine WLc_map pCh (fun c => pQ c.2) cs (fun x hx => ?_) ?_
  · simp [pCh]
  refine ⟨szle (by rw [List.length_map]; omega), ?_⟩
  simp
  refine WF.of (e_total (l := cs.map (·.2)) (k := 10) (by rw [List.map_map]; rfl) (fun q hq => by
    obtain ⟨c, hc, rfl⟩ := List.mem_map.mp hq
    exact (h.each c hc).2.2) (by rw [List.length_map]; omega)) ?_
  rw [h.one]
  simp [show k_ONE = pQ 1 from rfl, fEq_pQ]
theorem e_is_deed {n p g : Nat} {d : RDeed} {s : Sto} (h : DeedOk n p d g) (hn : n ≤ 9) (hp : p ≤ 9) : f_is_deed [.d (pDeed d), .d (.int (p : Int)), .d (.int (n : Int))] s = some (.d (.bool true), s) := by
  refine WF.eq (WF.body rfl ?_)
  simp [m_is_deed, pDeed]
  refine WF.of (e_is_tuple_of rfl) ?_
  simp
  refine WF.of (e_are_chances h.ch hn) ?_
  simp
  refine WF.of (e_is_row (by rw [h.len]) (by rw [h.len]; omega)) ?_
  simp
theorem e_is_stand {n p g : Nat} {st : List RDeed} {s : Sto} (h : ∀ d ∈ st, DeedOk n p d g) (h1 : 1 ≤ st.length) (h4 : st.length ≤ 4) (hn : n ≤ 9) (hp : p ≤ 9) : f_is_stand [.d (pStand st), .d (.int (p : Int)), .d (.int (n : Int))] s = some (.d (.bool true), s) := by
  refine WF.eq (WF.body rfl ?_)
  simp [m_is_stand, List.replicate_succ, pStand, k_MOST_DEEDS]
  refine WF.of (e_is_between (by omega) (by omega)) ?_
  simp
  refine WLc_map pDeed (fun _ => PyData.bool true) st (fun x hx => ?_) ?_
  · simp
    exact WF.of (e_is_deed (h x hx) hn hp) (by simp)
  refine ⟨szle (by rw [List.length_map]; omega), ?_⟩
  simp [fAll_true]
theorem e_is_house {N D P g : Nat} {h : RHouse} {s : Sto} (ok : HouseOk N D P h g) (hN : N ≤ 8) (hD : D ≤ 4) (hP : h.pays ≤ 4) : f_is_house_by [.d (pHouse h)] s = some (.d (.bool true), s) := by
  have hn1 := ok.n1
  have hn := ok.nN
  have hp1 := ok.p1
  refine WF.eq (WF.body rfl ?_)
  simp [m_is_house_by, List.replicate_succ, pHouse, k_MOST_PAYS, k_MOST_STANDS]
  refine WF.of (e_is_tuple_of rfl) ?_
  simp
  refine WF.of (show f_is_share [.d (pQ h.share)] s = some (.d (.bool true), s) from WF.eq (WF.body rfl ?_)) ?_
  · simp [m_is_share]
    refine WF.of e_is_ratio ?_
    have a := Rat.num_nonneg.mpr ok.s0
    have b := (Rat.lt_iff _ _).mp ok.s1
    simp at b
    simp [pQ, ok.s0, b]
  simp
  refine WF.of (e_is_between (by omega) (by omega)) ?_
  simp
  refine WF.of (e_is_between (by omega) (by omega)) ?_
  simp
  refine WLc_map pStand (fun _ => PyData.bool true) h.stands (fun x hx => ?_) ?_
  · obtain ⟨h1, h2, h3⟩ := ok.each x hx
    simp
    exact WF.of (e_is_stand h3 h1 (by omega) (by omega) (by omega)) (by simp)
  refine ⟨szle (by rw [List.length_map]; omega), ?_⟩
  simp [fAll_true]
theorem e_check_house {N D P g : Nat} {h : RHouse} {s : Sto} (ok : HouseOk N D P h g) (hN : N ≤ 8) (hD : D ≤ 4) (hP : h.pays ≤ 4) : f_check_house [.d (pHouse h)] s = some (.d .none, s) := by
  refine WF.eq (WF.body rfl ?_)
  simp [m_check_house]
  exact WF.of (e_is_house ok hN hD hP) (by simp)
end WW
namespace Dh
open PySem PySem.Spec L2 PySem.W
/-- a row of so many numbers; rows of these -/
def rowL (w : Nat) (f : Nat → Rat) : List PyData := (List.range w).map fun j => pQ (f j)
def rowsL (n w : Nat) (R : Nat → Nat → Rat) : List PyData := (List.range n).map fun i => PyData.list (rowL w (R i))
theorem range_add' (n : Nat) : ∀ r, List.range (n + r) = List.range n ++ (List.range r).map (n + ·)
  | 0 => by simp
  | r + 1 => by rw [← Nat.add_assoc, List.range_succ, List.range_succ, range_add' n r, List.map_append, List.append_assoc]; rfl
theorem rowL_len {w : Nat} {f : Nat → Rat} : (rowL w f).length = w := by simp [rowL]
theorem rowsL_len {n w : Nat} {R : Nat → Nat → Rat} : (rowsL n w R).length = n := by simp [rowsL]
theorem rowL_congr {w : Nat} {f g : Nat → Rat} (h : ∀ j, j < w → f j = g j) : rowL w f = rowL w g := List.map_congr_left fun j hj => by rw [h j (List.mem_range.mp hj)]
theorem rowsL_congr {n w : Nat} {R S : Nat → Nat → Rat} (h : ∀ i j, i < n → j < w → R i j = S i j) : rowsL n w R = rowsL n w S := List.map_congr_left fun i hi => by rw [rowL_congr fun j hj => h i j (List.mem_range.mp hi) hj]
theorem rowL_at {w j : Nat} {f : Nat → Rat} (h : j < w) : (rowL w f)[j]? = some (pQ (f j)) := by
  unfold rowL
  rw [List.getElem?_map, List.getElem?_range h]; rfl
theorem rowsL_at {n w i : Nat} {R : Nat → Nat → Rat} (h : i < n) : (rowsL n w R)[i]? = some (PyData.list (rowL w (R i))) := by
  unfold rowsL
  rw [List.getElem?_map, List.getElem?_range h]; rfl
theorem atI_row {w j : Nat} {f : Nat → Rat} (h : j < w) : atI (rowL w f) (j : Int) = some (pQ (f j)) := by
  rw [atI_ofNat (by rw [rowL_len]; exact h), rowL_at h]
theorem atI_rows {n w i : Nat} {R : Nat → Nat → Rat} (h : i < n) : atI (rowsL n w R) (i : Int) = some (PyData.list (rowL w (R i))) := by
  rw [atI_ofNat (by rw [rowsL_len]; exact h), rowsL_at h]
theorem rows_set {n w k : Nat} {R : Nat → Nat → Rat} {g : Nat → Rat} (hk : k < n) : (rowsL n w R).set k (.list (rowL w g)) = rowsL n w (fun i => if i = k then g else R i) := by
  apply List.ext_getElem?
  intro i
  by_cases hi : i < n
  · by_cases e : i = k
    · subst e
      rw [List.getElem?_set_self (by rw [rowsL_len]; exact hi), rowsL_at hi, if_pos rfl]
    · rw [List.getElem?_set_ne (Ne.symm e), rowsL_at hi, rowsL_at hi, if_neg e]
  · rw [List.getElem?_eq_none (by rw [List.length_set, rowsL_len]; omega), List.getElem?_eq_none (by rw [rowsL_len]; omega)]
theorem set_same {α : Type} {l : List α} {k : Nat} {x : α} (h : l[k]? = some x) : l.set k x = l := by
  apply List.ext_getElem?
  intro i
  by_cases e : i = k
  · subst e
    rw [List.getElem?_set_self (List.getElem?_eq_some_iff.mp h).1, h]
  · rw [List.getElem?_set_ne (Ne.symm e)]
theorem pairs_same {α : Type} {f g : α → PyData} : ∀ l : List α, pairs (l.map f) (l.map g) = l.map fun x => PyData.tuple [f x, g x]
  | [] => rfl
  | x :: l => by
    have := pairs_same (f := f) (g := g) l
    unfold pairs at this ⊢
    simp only [List.map_cons, List.zip_cons_cons, this]
theorem cutD_drop {xs : List PyData} {n : Nat} : cutD xs (some (n : Int)) none = xs.drop n := by
  unfold cutD
  have h : HT.sIx xs.length 0 (some (n : Int)) = min n xs.length := HT.sIx_nat _ _ _
  have h2 : HT.sIx xs.length xs.length none = xs.length := rfl
  rw [h, h2]
  by_cases e : n ≤ xs.length
  · rw [Nat.min_eq_left e, List.take_of_length_le (by rw [List.length_drop]; exact Nat.le_refl _)]
  · rw [Nat.min_eq_right (by omega), Nat.sub_self, List.take_zero, List.drop_eq_nil_of_le (by omega)]
theorem row_drop {n r : Nat} {f : Nat → Rat} : (rowL (n + r) f).drop n = rowL r (fun j => f (n + j)) := by
  unfold rowL
  rw [range_add', List.map_append, List.drop_append_of_le_length (by simp), List.drop_eq_nil_of_le (by simp), List.nil_append, List.map_map]
  rfl
theorem range2_nat {a b : Nat} (h : b ≤ 1000) (hab : a ≤ b) : range2 [.d (.int (a : Int)), .d (.int (b : Int))] = some ((List.range (b - a)).map fun i => PyData.int ((a : Int) + (i : Nat))) := by
  unfold range2
  have e : ((b : Int) - (a : Int)).toNat = b - a := by omega
  simp [rangeL, e, show (-4611686018427387904 : Int) ≤ (a : Int) by omega, show (a : Int) < 4611686018427387904 by omega, show (-4611686018427387904 : Int) ≤ (b : Int) by omega, show (b : Int) < 4611686018427387904 by omega]
/-- the table with its right sides -/
def wide (n : Nat) (T G : Nat → Nat → Rat) : Nat → Nat → Rat := fun i j => if j < n then T i j else G i (j - n)
theorem row_wide {n r : Nat} {T G : Nat → Nat → Rat} {i : Nat} : rowL n (T i) ++ rowL r (G i) = rowL (n + r) (wide n T G i) := by
  unfold rowL wide
  rw [range_add', List.map_append]
  congr 1
  · exact List.map_congr_left fun j hj => by rw [if_pos (List.mem_range.mp hj)]
  · rw [List.map_map]
    exact List.map_congr_left fun j hj => by
      show _ = pQ (if n + j < n then T i (n + j) else G i (n + j - n))
      rw [if_neg (by omega), Nat.add_sub_cancel_left]
end Dh
namespace WW
open PySem PySem.Spec L2 PySem.W Dh
theorem e_less_row {w : Nat} {f g : Nat → Rat} {b : Rat} {K : Nat} {s : Sto} (hf : ∀ j, j < w → QLt K (f j)) (hg : ∀ j, j < w → QLt (K + K) (g j)) (hb : QLt K b) (hK : K ≤ 1500) (hw : w ≤ 1000) :
    f_less_row [.d (.list (rowL w f)), .d (.list (rowL w g)), .d (pQ b)] s = some (.f (rowL w fun j => f j - b * g j), s) := by
  refine WF.eq (WF.body rfl ?_)
  simp [m_less_row, List.replicate_succ, rowL, pairs_same]
  refine WLc_map (fun j => PyData.tuple [pQ (f j), pQ (g j)]) (fun j => pQ (f j - b * g j)) (List.range w) (fun j hj => ?_) ?_
  · rw [List.mem_range] at hj
    simp
    refine WF.of (e_times (hb.bd) ((hg j hj).bd)) ?_
    simp
    exact WF.of (e_minus ((hf j hj).bd) ((QLt_mul hb (hg j hj)).bd)) (by simp)
  · refine ⟨szle (by simp; omega), ?_⟩
    simp
theorem e_answers_of {n r : Nat} {T G : Nat → Nat → Rat} {x y : PyData} {K : Nat} {s : Sto} (hx : x = .list (rowsL n n T)) (hy : y = .list ((List.range n).map fun i => PyData.tuple (rowL r (G i))))
    (hp : ∀ k, k < n → El.gj (wide n T G) k k k ≠ 0) (hb : ∀ k i j, k ≤ n → i < n → j < n + r → QLt K (El.gj (wide n T G) k i j)) (hK : K ≤ 1500) (hn : n + r ≤ 500) :
    f_answers_of [.d x, .d y] s = some (.f ((List.range n).map fun i => PyData.tuple (rowL r fun j => El.gj (wide n T G) n i (n + j))), s) := by
  refine WF.eq (WF.body rfl ?_)
  subst hx hy
  simp [m_answers_of, List.replicate_succ, rowsL, pairs_same]
  refine WLc_map (fun i => PyData.tuple [.list (rowL n (T i)), .tuple (rowL r (G i))]) (fun i => PyData.list (rowL (n + r) (wide n T G i))) (List.range n) (fun i hi => ?_) ?_
  · simp [fLstOf, fAdd, rowL_len, row_wide, szle (show n + r ≤ 1000 by omega)]
  refine ⟨szle (by simp; omega), ?_⟩
  simp [range1_nat (n := n) (by omega)]
  refine WFor_inv (fun i : Nat => PyData.int i) (List.range n) (fun k ρ s' => s' = s ∧ ∃ c4 c5 c6 c7 c8 c9 c10, ρ = [some (.d (.list (rowsL n n T))), some (.d (.list ((List.range n).map fun i => PyData.tuple (rowL r (G i))))), some (.o (rowsL n (n + r) (El.gj (wide n T G) k))), some (.d (.int (n : Int))), c4, c5, c6, c7, c8, c9, c10]) ⟨rfl, _, _, _, _, _, _, _, rfl⟩ ?_ ?_
  · rintro k x ρ s' hx ⟨rfl, c4, c5, c6, c7, c8, c9, c10, rfl⟩
    obtain ⟨rfl, hk⟩ := range_at hx
    have e2 : range2 [.d (.int (x : Int)), .d (.int (n : Int))] = _ := range2_nat (by omega) (by omega)
    simp [e2]
    generalize hR : El.gj (wide n T G) x = R at *
    have hRp : R x x ≠ 0 := by rw [← hR]; exact hp x hk
    have hRb : ∀ i j, i < n → j < n + r → QLt K (R i j) := fun i j hi hj => by rw [← hR]; exact hb x i j (by omega) hi hj
    refine WLc_opt (fun i : Nat => PyData.int ((x : Int) + (i : Nat))) (fun i => if R (x + i) x ≠ 0 then some (PyData.int ((x : Int) + (i : Nat))) else none) (List.range (n - x)) (fun i hi => ?_) ?_
    · rw [List.mem_range] at hi
      have e : (x : Int) + (i : Nat) = ((x + i : Nat) : Int) := by omega
      rw [e]
      have er := atI_rows (n := n) (w := n + r) (R := R) (i := x + i) (by omega)
      have ej := atI_row (w := n + r) (f := R (x + i)) (j := x) (by omega)
      by_cases h0 : R (x + i) x = 0
      · simp [-Int.natCast_add, er, ej, show k_ZERO = pQ 0 from rfl, fEq_pQ, h0]
      · simp [-Int.natCast_add, er, ej, show k_ZERO = pQ 0 from rfl, fEq_pQ, h0]
    have hcons : ∃ rest, (List.range (n - x)).filterMap (fun i => if R (x + i) x ≠ 0 then some (PyData.int ((x : Int) + (i : Nat))) else none) = PyData.int (x : Int) :: rest := by
      obtain ⟨d, hd⟩ : ∃ d, n - x = d + 1 := ⟨n - x - 1, by omega⟩
      rw [hd, List.range_succ_eq_map, List.filterMap_cons]
      simp [hRp]
    refine ⟨szle (Nat.le_trans (List.length_filterMap_le ..) (by rw [List.length_range]; omega)), ?_⟩
    obtain ⟨rest, er⟩ := hcons
    rw [er]
    have ex := atI_rows (n := n) (w := n + r) (R := R) hk
    have exx := atI_row (w := n + r) (f := R x) (j := x) (by omega)
    have ei := ixN_ofNat (n := n) hk
    simp [ex, sz2, ei, rowsL_len, set_same (rowsL_at (n := n) (w := n + r) (R := R) hk)]
    unfold rowL
    refine WLc_map (fun j => pQ (R x j)) (fun j => pQ (R x j / R x x)) (List.range (n + r)) (fun j hj => ?_) ?_
    · rw [List.mem_range] at hj
      simp [ex, exx]
      exact WF.of (e_over ((hRb x j hk hj).bd) ((hRb x x hk (by omega)).bd) hRp) (by simp)
    refine ⟨szle (by simp; omega), ?_⟩
    simp [frzs, frz1]
    unfold rowsL
    refine WLc_map (fun i => PyData.list (rowL (n + r) (R i))) (fun i => PyData.list (rowL (n + r) (fun j => R i j - R i x * (R x j / R x x)))) (List.range n) (fun i hi => ?_) ?_
    · rw [List.mem_range] at hi
      have eix := atI_row (w := n + r) (f := R i) (j := x) (by omega)
      simp [eix]
      exact WF.of (e_less_row (K := K) (f := R i) (g := fun j => R x j / R x x) (fun j hj => hRb i j hi hj) (fun j hj => QLt_div (hRb x j hk hj) (hRb x x hk (by omega))) (hRb i x hi (by omega)) hK (by omega)) (by simp)
    refine ⟨szle (by simp; omega), ?_⟩
    simp [frzs, frz1, Dh.putL, ei]
    have hs : El.gj (wide n T G) (x + 1) = fun i => if i = x then (fun j => R x j / R x x) else (fun j => R i j - R i x * (R x j / R x x)) := by
      show El.step x (El.gj (wide n T G) x) = _
      rw [hR]
      funext i j
      unfold El.step
      split <;> rfl
    show (rowsL n (n + r) (fun i j => R i j - R i x * (R x j / R x x))).set x (.list (rowL (n + r) (fun j => R x j / R x x))) = rowsL n (n + r) (El.gj (wide n T G) (x + 1))
    rw [rows_set hk, hs]
  · rintro ρ s' ⟨rfl, c4, c5, c6, c7, c8, c9, c10, rfl⟩
    rw [List.length_range]
    simp [frzs, frz1]
    unfold rowsL
    refine WLc_map (fun i => PyData.list (rowL (n + r) (El.gj (wide n T G) n i))) (fun i => PyData.tuple (rowL r fun j => El.gj (wide n T G) n i (n + j))) (List.range n) (fun i hi => ?_) ?_
    · simp [fSl, cutD_drop, row_drop]
    refine ⟨szle (by simp; omega), ?_⟩
    simp
end WW
namespace Dh
open PySem PySem.Spec L2 PySem.W
/-- the chance to come to a stand -/
def chF (cs : List (Nat × Rat)) (i : Nat) : Rat := ((cs.find? fun c => decide (c.1 = i)).map (·.2)).getD 0
theorem find_map_ch {i : Nat} : ∀ cs : List (Nat × Rat), ((cs.map fun c => (PyData.int (c.1 : Nat), pQ c.2)).find? fun p => kEq p.1 (.inl (i : Int))).map (·.2) = (cs.find? fun c => decide (c.1 = i)).map fun c => pQ c.2
  | [] => rfl
  | c :: cs => by
    rw [List.map_cons, List.find?_cons, List.find?_cons]
    by_cases e : c.1 = i
    · have k : kEq (PyData.int (c.1 : Nat)) (.inl (i : Int)) = true := by simp [kEq, e]
      rw [decide_eq_true e]
      simp only [k]
      rfl
    · have k : kEq (PyData.int (c.1 : Nat)) (.inl (i : Int)) = false := by simp [kEq]; omega
      simp only [k, e, decide_false]
      exact find_map_ch cs
theorem fGet_ch {cs : List (Nat × Rat)} {i : Nat} : fGet (.d (dOf (cs.map fun c => ((Sum.inl (c.1 : Int) : Key), pQ c.2)))) (.d (.int (i : Nat))) (.d (pQ 0)) = some (.d (pQ (chF cs i))) := by
  have e : dOf (cs.map fun c => ((Sum.inl (c.1 : Int) : Key), pQ c.2)) = .dict (cs.map fun c => (PyData.int (c.1 : Nat), pQ c.2)) := by
    unfold dOf
    rw [List.map_map]
    rfl
  rw [e]
  show some (R.d ((((cs.map fun c => (PyData.int (c.1 : Nat), pQ c.2)).find? fun p => kEq p.1 (.inl (i : Int))).map (·.2)).getD (pQ 0))) = _
  rw [find_map_ch]
  unfold chF
  cases cs.find? fun c => decide (c.1 = i) <;> rfl
theorem chF_mem {cs : List (Nat × Rat)} {i : Nat} : chF cs i = 0 ∨ ∃ c ∈ cs, c.1 = i ∧ c.2 = chF cs i := by
  unfold chF
  cases h : cs.find? fun c => decide (c.1 = i) with
  | none => exact .inl rfl
  | some c =>
    refine .inr ⟨c, List.mem_of_find?_eq_some h, ?_, rfl⟩
    simpa using List.find?_some h
theorem ChOk.chF_lt {n : Nat} {cs : List (Nat × Rat)} (h : ChOk n cs) (i : Nat) : QLt 10 (chF cs i) ∧ 0 ≤ chF cs i := by
  rcases chF_mem (cs := cs) (i := i) with e | ⟨c, hc, _, e⟩
  · rw [e]; exact ⟨QLt_0, Rat.le_refl⟩
  · rw [← e]; exact ⟨(h.each c hc).2.2, Rat.le_of_lt (h.each c hc).2.1⟩
/-- a still plan's chances from one stand to another, its gains -/
def Mv (h : RHouse) (plan : List (List Rat)) (i j : Nat) : Rat := qsum (((plan.getD i []).zip (h.stands.getD i [])).map fun p => chF p.2.ch j * p.1)
def Gt (h : RHouse) (plan : List (List Rat)) (i j : Nat) : Rat := qsum (((plan.getD i []).zip (h.stands.getD i [])).map fun p => p.2.gs.getD j 0 * p.1)
def Tb (h : RHouse) (plan : List (List Rat)) (i j : Nat) : Rat := (if j = i then 1 else 0) - h.share * Mv h plan i j
/-- the table of the equations, the gains behind -/
def Aw (h : RHouse) (plan : List (List Rat)) : Nat → Nat → Rat := wide h.stands.length (Tb h plan) (Gt h plan)
def Xw (h : RHouse) (plan : List (List Rat)) (i j : Nat) : Rat := El.gj (Aw h plan) h.stands.length i (h.stands.length + j)
def pPlan (plan : List (List Rat)) : PyData := .tuple (plan.map pQs)
structure PlanOk (o : Nat) (h : RHouse) (plan : List (List Rat)) (c : Nat := 9) : Prop where
  len : plan.length = h.stands.length
  row : ∀ i, i < h.stands.length → (plan.getD i []).length = (h.stands.getD i []).length
  each : ∀ i, ∀ q ∈ plan.getD i [], 0 ≤ q ∧ QLt o q
  one : ∀ i, i < h.stands.length → qsum (plan.getD i []) = 1
  cd : ∀ i, ∃ S : Nat, 0 < S ∧ S < 2 ^ c ∧ ∀ q ∈ plan.getD i [], CD S S q
theorem stand_at {h : RHouse} {i : Nat} (hi : i < h.stands.length) : h.stands[i]? = some (h.stands.getD i []) := by
  rw [List.getD_eq_getElem?_getD, List.getElem?_eq_getElem hi]; rfl
theorem stand_mem {h : RHouse} {i : Nat} (hi : i < h.stands.length) : h.stands.getD i [] ∈ h.stands := List.mem_of_getElem? (stand_at hi)
theorem getD_at {α : Type} {l : List α} {i : Nat} {d : α} (hi : i < l.length) : l[i]? = some (l.getD i d) := by
  rw [List.getD_eq_getElem?_getD, List.getElem?_eq_getElem hi]; rfl
theorem zipIdx_range {α : Type} (f : Nat → α) : ∀ n, ((List.range n).map f).zipIdx = (List.range n).map fun i => (f i, i) := fun n => by
  apply List.ext_getElem?
  intro i
  rw [List.getElem?_zipIdx, List.getElem?_map, List.getElem?_map]
  by_cases hi : i < n
  · rw [List.getElem?_range hi]; simp
  · rw [List.getElem?_eq_none (by simp; omega)]; rfl
theorem map_range {α β : Type} {d : α} (l : List α) (g : α → β) : l.map g = (List.range l.length).map fun i => g (l.getD i d) := by
  apply List.ext_getElem?
  intro i
  rw [List.getElem?_map, List.getElem?_map]
  by_cases hi : i < l.length
  · rw [List.getElem?_range hi, getD_at (d := d) hi]; rfl
  · rw [List.getElem?_eq_none (by omega), List.getElem?_eq_none (by simp; omega)]; rfl
end Dh
namespace Dh
open PySem PySem.Spec L2 PySem.W
theorem numbered_range (n : Nat) (f : Nat → PyData) : numbered ((List.range n).map f) = (List.range n).map fun i => PyData.tuple [.int (i : Nat), f i] := by
  unfold numbered
  rw [zipIdx_range, List.map_map]
  rfl
theorem qsum_cons {x : Rat} {l : List Rat} : qsum (x :: l) = x + qsum l := by
  rw [show x :: l = [x] ++ l from rfl, qsum_append]
  simp [qsum]
  grind
theorem chF_cons {c : Nat × Rat} {cs : List (Nat × Rat)} {i : Nat} : chF (c :: cs) i = if c.1 = i then c.2 else chF cs i := by
  unfold chF
  rw [List.find?_cons]
  by_cases e : c.1 = i
  · simp [e]
  · simp [e]
theorem chF_sum {n : Nat} : ∀ {cs : List (Nat × Rat)}, cs.Pairwise (fun a b => a.1 < b.1) → (∀ c ∈ cs, c.1 < n) → El.sm n (chF cs) = qsum (cs.map (·.2))
  | [], _, _ => El.sm_zero fun i hi => rfl
  | c :: cs, h, hb => by
    rw [List.pairwise_cons] at h
    have ih := chF_sum h.2 fun x hx => hb x (List.mem_cons_of_mem _ hx)
    have z : chF cs c.1 = 0 := by
      rcases chF_mem (cs := cs) (i := c.1) with e | ⟨x, hx, e, _⟩
      · exact e
      · have := h.1 x hx; omega
    have e : El.sm n (chF (c :: cs)) = El.sm n (fun i => (if c.1 = i then c.2 else 0) + chF cs i) := El.sm_congr fun i _ => by
      rw [chF_cons]
      by_cases q : c.1 = i
      · subst q; rw [if_pos rfl, if_pos rfl, z]; grind
      · rw [if_neg q, if_neg q]; grind
    rw [e, El.sm_add, ih, List.map_cons, qsum_cons, El.sm_one (hb c List.mem_cons_self) fun i _ hi => by rw [if_neg (fun z => hi z.symm)], if_pos rfl]
theorem QLt_if {c : Prop} [Decidable c] {k : Nat} (h : 0 < k := by omega) : QLt k (if c then (1 : Rat) else 0) := by
  split
  · exact QLt_1
  · exact QLt_0
end Dh
namespace Dh
open PySem PySem.Spec L2 PySem.W
theorem qsum_range {f : Nat → Rat} : ∀ n, qsum ((List.range n).map f) = El.sm n f
  | 0 => rfl
  | n + 1 => by rw [List.range_succ, List.map_append, List.map_singleton, qsum_snoc, qsum_range n]; rfl
def unitRow (m k : Nat) : List Rat := (List.range m).map fun j => if j = k then 1 else 0
def planOf (h : RHouse) (c : List Nat) : List (List Rat) := (List.range h.stands.length).map fun i => unitRow (h.stands.getD i []).length (c.getD i 0)
def d0 : RDeed := ⟨[], []⟩
/-- the deed that a choice does -/
def dd (h : RHouse) (c : List Nat) (i : Nat) : RDeed := (h.stands.getD i []).getD (c.getD i 0) d0
theorem zip_range {α β : Type} {d : β} {f : Nat → α} (l : List β) : ((List.range l.length).map f).zip l = (List.range l.length).map fun j => (f j, l.getD j d) := by
  apply List.ext_getElem?
  intro i
  by_cases hi : i < l.length
  · have e1 : ((List.range l.length).map f)[i]? = some (f i) := by rw [List.getElem?_map, List.getElem?_range hi]; rfl
    rw [List.getElem?_map, List.getElem?_range hi]
    rw [(List.getElem?_zip_eq_some (z := (f i, l.getD i d))).mpr ⟨e1, getD_at (d := d) hi⟩]
    rfl
  · rw [List.getElem?_eq_none (by simp; omega), List.getElem?_eq_none (by simp; omega)]
theorem unit_mean {st : List RDeed} {k : Nat} {F : RDeed → Rat} (hk : k < st.length) : qsum (((unitRow st.length k).zip st).map fun p => F p.2 * p.1) = F (st.getD k d0) := by
  unfold unitRow
  rw [zip_range (d := d0), List.map_map, qsum_range, El.sm_one hk]
  · simp
  · intro i hi e
    simp [e]
theorem planOf_at {h : RHouse} {c : List Nat} {i : Nat} (hi : i < h.stands.length) : (planOf h c).getD i [] = unitRow (h.stands.getD i []).length (c.getD i 0) := by
  unfold planOf
  rw [List.getD_eq_getElem?_getD, List.getElem?_map, List.getElem?_range hi]; rfl
theorem ChoiceOk.lt {h : RHouse} {c : List Nat} (hc : ChoiceOk h c) {i : Nat} (hi : i < h.stands.length) : c.getD i 0 < (h.stands.getD i []).length :=
  hc.2 i _ _ (stand_at hi) (getD_at (by rw [hc.1]; exact hi))
theorem Mv_choice {h : RHouse} {c : List Nat} (hc : ChoiceOk h c) {i : Nat} (hi : i < h.stands.length) (l : Nat) : Mv h (planOf h c) i l = chF (dd h c i).ch l := by
  unfold Mv
  rw [planOf_at hi]
  exact unit_mean (F := fun d => chF d.ch l) (hc.lt hi)
theorem planOf_ok {h : RHouse} {c : List Nat} (hc : ChoiceOk h c) : PlanOk 1 h (planOf h c) where
  len := by simp [planOf]
  row := fun i hi => by rw [planOf_at hi]; simp [unitRow]
  each := fun i q hq => by
    by_cases hi : i < h.stands.length
    · rw [planOf_at hi] at hq
      obtain ⟨j, _, rfl⟩ := List.mem_map.mp hq
      refine ⟨?_, QLt_if⟩
      split <;> decide
    · rw [List.getD_eq_getElem?_getD, List.getElem?_eq_none (by simp [planOf]; omega)] at hq
      cases hq
  one := fun i hi => by
    rw [planOf_at hi]
    unfold unitRow
    rw [qsum_range, El.sm_one (hc.lt hi) fun j _ e => by rw [if_neg e], if_pos rfl]
  cd := fun i => by
    refine ⟨1, by decide, by decide, fun q hq => ?_⟩
    by_cases hi : i < h.stands.length
    · rw [planOf_at hi] at hq
      obtain ⟨j, _, rfl⟩ := List.mem_map.mp hq
      exact CD_if
    · rw [List.getD_eq_getElem?_getD, List.getElem?_eq_none (by simp [planOf]; omega)] at hq
      cases hq
theorem dd_ok {N D P g : Nat} {h : RHouse} {c : List Nat} (ok : HouseOk N D P h g) (hc : ChoiceOk h c) {i : Nat} (hi : i < h.stands.length) : DeedOk h.stands.length h.pays (dd h c i) g :=
  (ok.each _ (stand_mem hi)).2.2 _ (List.mem_of_getElem? (getD_at (hc.lt hi)))
/-- the weighted worths of a choice -/
def hv (h : RHouse) (w : List Rat) (c : List Nat) (i : Nat) : Rat := qdot w ((List.range h.pays).map fun j => Xw h (planOf h c) i j)
/-- the mean of worths behind chances -/
def ahead (cs : List (Nat × Rat)) (v : Nat → Rat) : Rat := qsum (cs.map fun c => c.2 * v c.1)
end Dh
namespace Dh
open PySem PySem.Spec L2 PySem.W
theorem ix_num {q : Rat} {s : Sto} : fIx s (.d (pQ q)) (.d (.int 0)) = some (.d (.int q.num)) := by simp [pQ]
theorem atI_stand {h : RHouse} {i : Nat} (hi : i < h.stands.length) : atI (h.stands.map pStand) (i : Int) = some (pStand (h.stands.getD i [])) := by
  rw [atI_ofNat (by rw [List.length_map]; exact hi), List.getElem?_map, stand_at hi]; rfl
theorem atI_deed {st : List RDeed} {k : Nat} (hk : k < st.length) : atI (st.map pDeed) (k : Int) = some (pDeed (st.getD k d0)) := by
  rw [atI_ofNat (by rw [List.length_map]; exact hk), List.getElem?_map, getD_at (d := d0) hk]; rfl
theorem zip_map_range {α β : Type} {a : α} {b : β} {n : Nat} {l : List α} {m : List β} (hl : l.length = n) (hm : m.length = n) : l.zip m = (List.range n).map fun i => (l.getD i a, m.getD i b) := by
  apply List.ext_getElem?
  intro i
  by_cases hi : i < n
  · rw [List.getElem?_map, List.getElem?_range hi, (List.getElem?_zip_eq_some (z := (l.getD i a, m.getD i b))).mpr ⟨getD_at (by omega), getD_at (by omega)⟩]; rfl
  · rw [List.getElem?_eq_none (by simp; omega), List.getElem?_eq_none (by simp; omega)]
end Dh
namespace Dh
open PySem PySem.Spec L2 PySem.W
/-- a house for the law's own sums -/
structure Wd (g : Nat) (h : RHouse) : Prop where
  sb : QLt 6 h.share
  p1 : 1 ≤ h.pays
  p9 : h.pays ≤ 9
  n1 : 1 ≤ h.stands.length
  n9 : h.stands.length ≤ 9
  each : ∀ st ∈ h.stands, 1 ≤ st.length ∧ st.length ≤ 9 ∧ ∀ d ∈ st, ChOk h.stands.length d.ch ∧ d.gs.length = h.pays ∧ ∀ q ∈ d.gs, QLt g q
theorem HouseOk.wd {N D P g : Nat} {h : RHouse} (ok : HouseOk N D P h g) (hN : N ≤ 9) (hD : D ≤ 9) (hP : P ≤ 9) : Wd g h :=
  ⟨ok.sb, ok.p1, Nat.le_trans ok.pP hP, ok.n1, Nat.le_trans ok.nN hN, fun st hst => ⟨(ok.each st hst).1, Nat.le_trans (ok.each st hst).2.1 hD, fun d hd => ⟨((ok.each st hst).2.2 d hd).ch, ((ok.each st hst).2.2 d hd).len, ((ok.each st hst).2.2 d hd).gain⟩⟩⟩
theorem row_set {w k : Nat} {f : Nat → Rat} {x : Rat} : (rowL w f).set k (pQ x) = rowL w (fun l => if l = k then x else f l) := by
  apply List.ext_getElem?
  intro i
  by_cases hi : i < w
  · by_cases e : i = k
    · subst e
      rw [List.getElem?_set_self (by rw [rowL_len]; exact hi), rowL_at hi, if_pos rfl]
    · rw [List.getElem?_set_ne (Ne.symm e), rowL_at hi, rowL_at hi, if_neg e]
  · rw [List.getElem?_eq_none (by rw [List.length_set, rowL_len]; omega), List.getElem?_eq_none (by rw [rowL_len]; omega)]
theorem row_zero {w : Nat} : List.replicate w (pQ 0) = rowL w (fun _ => 0) := by
  apply List.ext_getElem?
  intro i
  by_cases hi : i < w
  · rw [rowL_at hi, List.getElem?_replicate, if_pos hi]
  · rw [List.getElem?_eq_none (by simp; omega), List.getElem?_eq_none (by rw [rowL_len]; omega)]
theorem chF_none {cs : List (Nat × Rat)} {i : Nat} (h : ∀ c ∈ cs, c.1 ≠ i) : chF cs i = 0 := by
  rcases chF_mem (cs := cs) (i := i) with e | ⟨c, hc, e, _⟩
  · exact e
  · exact absurd e (h c hc)
/-- the chances of the first so many places -/
theorem chF_snoc {cs : List (Nat × Rat)} {c : Nat × Rat} (h : ∀ x ∈ cs, x.1 < c.1) (i : Nat) : chF (cs ++ [c]) i = chF cs i + if i = c.1 then c.2 else 0 := by
  by_cases e : i = c.1
  · subst e
    rw [if_pos rfl, chF_none (cs := cs) fun x hx => by have := h x hx; omega]
    unfold chF
    have : cs.find? (fun x => decide (x.1 = c.1)) = none := by
      rw [List.find?_eq_none]
      intro x hx
      have := h x hx
      simp
      omega
    rw [List.find?_append, this]
    simp
    grind
  · rw [if_neg e]
    unfold chF
    rw [List.find?_append]
    have : [c].find? (fun x => decide (x.1 = i)) = none := by
      rw [List.find?_eq_none]
      intro x hx
      rw [List.mem_singleton.mp hx]
      simp
      exact fun z => e z.symm
    rw [this, Option.or_none]
    grind
theorem pw_take {cs : List (Nat × Rat)} (h : cs.Pairwise fun a b => a.1 < b.1) {t : Nat} {c : Nat × Rat} (hc : cs[t]? = some c) : ∀ x ∈ cs.take t, x.1 < c.1 := by
  intro x hx
  rw [List.mem_take_iff_getElem] at hx
  obtain ⟨i, hi, rfl⟩ := hx
  obtain ⟨ht, rfl⟩ := List.getElem?_eq_some_iff.mp hc
  exact List.pairwise_iff_getElem.mp h i t (by omega) ht (by omega)
theorem zip_flip {α β γ : Type} {f : α → β → γ} : ∀ (l : List α) (m : List β), (l.zip m).map (fun p => f p.1 p.2) = (m.zip l).map fun p => f p.2 p.1
  | [], m => by simp
  | x :: l, [] => by simp
  | x :: l, y :: m => by rw [List.zip_cons_cons, List.map_cons, List.zip_cons_cons, List.map_cons, zip_flip l m]
theorem fMul_repL {x : PyData} {n : Nat} (h : n ≤ 1000) : fMul (.f [x]) (.d (.int (n : Int))) = some (.f (List.replicate n x)) := by
  have h63 : (2 : Int) ^ 63 = 9223372036854775808 := by decide
  unfold fMul
  dsimp only
  rw [Int.toNat_natCast, if_pos ⟨by omega, by omega, by rw [List.length_singleton, Nat.one_mul]; exact szle h⟩, flat_one]
end Dh
namespace WW
open PySem PySem.Spec L2 PySem.W Dh
theorem e_lsure {g : Nat} {h : RHouse} {c : List Nat} {s : Sto} (wd : Wd g h) (hc : ChoiceOk h c) : f_law_sure [.d (pHouse h), .d (.tuple (c.map iN))] s = some (.d (pPlan (planOf h c)), s) := by
  have hn := wd.n9
  refine WF.eq (WF.body rfl ?_)
  simp [m_law_sure, List.replicate_succ, pHouse, pairs_map]
  rw [zip_map_range (a := []) (b := 0) rfl hc.1, List.map_map]
  refine WFor_inv (p2 pStand iN ∘ fun i => (h.stands.getD i [], c.getD i 0)) (List.range h.stands.length) (fun i ρ s' => s' = s ∧ ∃ x y z, ρ = [some (.d (pHouse h)), some (.d (.tuple (c.map iN))), some (.o ((List.range i).map fun i => pQs (unitRow (h.stands.getD i []).length (c.getD i 0)))), x, y, z]) ⟨rfl, none, none, none, rfl⟩ ?_ ?_
  · rintro i x ρ s' hx ⟨rfl, x3, x4, x5, rfl⟩
    obtain ⟨rfl, hi⟩ := range_at hx
    have hst := wd.each _ (stand_mem hi)
    simp [p2, pStand, iN, -List.getD_eq_getElem?_getD]
    rw [show range1 [.d (.int ((h.stands.getD x []).length : Int))] = _ from range1_nat (by omega)]
    simp [-List.getD_eq_getElem?_getD]
    refine WLc_map (fun i : Nat => PyData.int i) (fun j => pQ (if j = c.getD x 0 then 1 else 0)) (List.range (h.stands.getD x []).length) (fun j hj => ?_) ?_
    · simp [fEq_int, -List.getD_eq_getElem?_getD]
      by_cases e : j = c.getD x 0
      · rw [if_pos e, ← e]
        simp [sz2]
        rfl
      · rw [if_neg e]
        simp [show ¬ (j : Int) = ((c.getD x 0 : Nat) : Int) by omega, sz2, -List.getD_eq_getElem?_getD]
        rfl
    refine ⟨szle (by simp [-List.getD_eq_getElem?_getD]; omega), ?_⟩
    simp [szlt (show x ≤ 1000 by omega), -List.getD_eq_getElem?_getD]
    rw [List.range_succ, List.map_append]
    simp [unitRow, pQs, -List.getD_eq_getElem?_getD]
  · rintro ρ s' ⟨rfl, x3, x4, x5, rfl⟩
    rw [List.length_range]
    simp [pPlan, planOf, -List.getD_eq_getElem?_getD]
theorem e_lmoves {g o : Nat} {h : RHouse} {plan : List (List Rat)} {s : Sto} (wd : Wd g h) (pl : PlanOk o h plan) (ho : o ≤ 50) : f_law_moves [.d (pHouse h), .d (pPlan plan)] s = some (.f (rowsL h.stands.length h.stands.length (Mv h plan)), s) := by
  have hn := wd.n9
  refine WF.eq (WF.body rfl ?_)
  simp [m_law_moves, List.replicate_succ, pHouse, pPlan, pairs_map]
  rw [zip_map_range (a := []) (b := []) rfl pl.len, List.map_map]
  refine WFor_inv (p2 pStand pQs ∘ fun i => (h.stands.getD i [], plan.getD i [])) (List.range h.stands.length) (fun i ρ s' => s' = s ∧ ∃ x3 x4 x5 x6 x7 x8 x9, ρ = [some (.d (pHouse h)), some (.d (pPlan plan)), some (.o (rowsL i h.stands.length (Mv h plan))), x3, x4, x5, x6, x7, x8, x9]) ⟨rfl, none, none, none, none, none, none, none, rfl⟩ ?_ ?_
  · rintro i x ρ s' hx ⟨rfl, x3, x4, x5, x6, x7, x8, x9, rfl⟩
    obtain ⟨rfl, hi⟩ := range_at hx
    have hst := wd.each _ (stand_mem hi)
    have he := pl.each x
    have hlen := pl.row x hi
    simp [p2, pHouse, sz1, sz2, -List.getD_eq_getElem?_getD]
    rw [show PyData.tuple [.int 0, .int 1] = pQ 0 from rfl, fMul_repL (by omega), row_zero]
    simp [pStand, pQs, pairs_map, -List.getD_eq_getElem?_getD]
    have hMv : Mv h plan x = fun l => qsum (((h.stands.getD x []).zip (plan.getD x [])).map fun p => p.2 * chF p.1.ch l) := by
      funext l
      unfold Mv
      rw [← zip_flip (f := fun (d : RDeed) (q : Rat) => chF d.ch l * q)]
      congr 1
      exact List.map_congr_left fun p _ => Rat.mul_comm _ _
    generalize h.stands.getD x [] = st at *
    generalize plan.getD x [] = od at *
    have hz : (st.zip od).length ≤ 9 := by rw [List.length_zip]; omega
    have hb : ∀ j l, QLt (1 + (10 + o + 1) * 9) (qsum (((st.zip od).map fun p => p.2 * chF p.1.ch l).take j)) := fun j l => by
      refine (qsum_take_lt (k := 10 + o) fun q hq => ?_).mono ?_
      · obtain ⟨p, hp, rfl⟩ := List.mem_map.mp hq
        have z := List.of_mem_zip (a := p.1) (b := p.2) hp
        exact (QLt_mul (he _ z.2).2 ((hst.2.2 _ z.1).1.chF_lt l).1).mono (by omega)
      · rw [List.length_map]
        have := Nat.mul_le_mul_left (10 + o + 1) hz
        omega
    refine WFor_inv (p2 pDeed pQ) (st.zip od) (fun j ρ s2 => s2 = s' ∧ ∃ x6 x7 x8 x9, ρ = [some (.d (pHouse h)), some (.d (pPlan plan)), some (.o (rowsL x h.stands.length (Mv h plan))), some (.d (pStand st)), some (.d (pQs od)),
      some (.o (rowL h.stands.length fun l => qsum (((st.zip od).map fun p => p.2 * chF p.1.ch l).take j))), x6, x7, x8, x9]) ⟨rfl, x6, x7, x8, x9, rfl⟩ ?_ ?_
    · rintro j p ρ s2 hp ⟨rfl, x6, x7, x8, x9, rfl⟩
      have hm := List.mem_of_getElem? hp
      have z := List.of_mem_zip (a := p.1) (b := p.2) hm
      have hch := (hst.2.2 _ z.1).1
      have ho2 := (he _ z.2).2
      have hj : j < (st.zip od).length := (List.getElem?_eq_some_iff.mp hp).1
      simp [p2, pDeed]
      refine WFor_inv pCh p.1.ch (fun t ρ s3 => s3 = s2 ∧ ∃ x8 x9, ρ = [some (.d (pHouse h)), some (.d (pPlan plan)), some (.o (rowsL x h.stands.length (Mv h plan))), some (.d (pStand st)), some (.d (pQs od)),
        some (.o (rowL h.stands.length fun l => qsum (((st.zip od).map fun p => p.2 * chF p.1.ch l).take j) + p.2 * chF (p.1.ch.take t) l)), some (.d (pDeed p.1)), some (.d (pQ p.2)), x8, x9]) ⟨rfl, x8, x9, ?_⟩ ?_ ?_
      · have e9 : rowL h.stands.length (fun l => qsum (((st.zip od).map fun p => p.2 * chF p.1.ch l).take j) + p.2 * chF (p.1.ch.take 0) l) = rowL h.stands.length (fun l => qsum (((st.zip od).map fun p => p.2 * chF p.1.ch l).take j)) := rowL_congr fun l _ => by
          rw [List.take_zero, show chF [] l = 0 from rfl]
          grind
        rw [e9]
        rfl
      · rintro t c ρ s3 hc ⟨rfl, x8, x9, rfl⟩
        have hcm := hch.each c (List.mem_of_getElem? hc)
        have ea := atI_row (w := h.stands.length) (f := fun l => qsum (((st.zip od).map fun p => p.2 * chF p.1.ch l).take j) + p.2 * chF (p.1.ch.take t) l) hcm.1
        have hz0 : chF (p.1.ch.take t) c.1 = 0 := chF_none fun y hy => by have := pw_take hch.asc hc y hy; omega
        have hbase := hb j c.1
        simp [pCh, ea]
        refine WF.of (e_ltimes ((ho2).bd) (hcm.2.2.bd)) ?_
        simp
        rw [hz0]
        refine WF.of (e_lplus ?_ ((QLt_mul ho2 hcm.2.2).bd)) ?_
        · exact (QLt_add hbase (QLt_mul ho2 (QLt_0 (k := 1)))).bd
        simp [Dh.putL, ixN_ofNat (n := h.stands.length) hcm.1, rowL_len, row_set]
        refine rowL_congr fun l hl => ?_
        rw [take_snoc hc, chF_snoc (pw_take hch.asc hc)]
        by_cases e : l = c.1
        · subst e
          rw [if_pos rfl, if_pos rfl, hz0]; grind
        · rw [if_neg e, if_neg e]; grind
      · rintro ρ s3 ⟨rfl, x8, x9, rfl⟩
        simp
        exact rowL_congr fun l hl => by rw [take_snoc (getElem_map_some hp), qsum_snoc]
    · rintro ρ s2 ⟨rfl, x6, x7, x8, x9, rfl⟩
      simp [frzs, frz1, rowsL_len, szlt (show x ≤ 1000 by omega)]
      refine ⟨rfl, ?_⟩
      have e9 : rowL h.stands.length (fun l => qsum (List.take (min st.length od.length) ((st.zip od).map fun p => p.2 * chF p.1.ch l))) = rowL h.stands.length (Mv h plan x) := rowL_congr fun l _ => by
        rw [hMv, List.take_of_length_le (by simp)]
      rw [e9]
      unfold rowsL
      rw [List.range_succ, List.map_append]
      rfl
  · rintro ρ s' ⟨rfl, x3, x4, x5, x6, x7, x8, x9, rfl⟩
    rw [List.length_range]
    simp
end WW
namespace Dh
open PySem PySem.Spec L2 PySem.W
end Dh
namespace WW
open PySem PySem.Spec L2 PySem.W Dh
theorem e_lsolvedC {n r K0 K1 : Nat} {A : Nat → Nat → Rat} {s : Sto} (hp : ∀ k, k < n → El.gj A k k k ≠ 0) (hb0 : ∀ k i j, k ≤ n → i < n → j < n → QLt K0 (El.gj A k i j)) (hb : ∀ k i j, k ≤ n → i < n → j < n + r → QLt K1 (El.gj A k i j)) (hK : K0 + K1 ≤ 4500) (hn : n + r ≤ 500) :
    f_law_solved [.d (.list (rowsL n (n + r) A))] s = some (.f ((List.range n).map fun i => PyData.tuple (rowL r fun j => El.gj A n i (n + j))), s) := by
  refine WF.eq (WF.body rfl ?_)
  simp [m_law_solved, List.replicate_succ]
  unfold rowsL
  refine WLc_map (fun i => PyData.list (rowL (n + r) (A i))) (fun i => PyData.list (rowL (n + r) (A i))) (List.range n) (fun i hi => ?_) ?_
  · simp [fLstOf]
  refine ⟨szle (by simp; omega), ?_⟩
  simp [range1_nat (n := n) (by omega)]
  refine WFor_inv (fun i : Nat => PyData.int i) (List.range n) (fun k ρ s' => s' = s ∧ ∃ x2 x3 x4 x5 x6 x7 x8, ρ = [some (.d (.list (rowsL n (n + r) A))), some (.o (rowsL n (n + r) (El.gj A k))), x2, x3, x4, x5, x6, x7, x8]) ⟨rfl, none, none, none, none, none, none, none, rfl⟩ ?_ ?_
  · rintro k x ρ s' hx ⟨rfl, x2, x3, x4, x5, x6, x7, x8, rfl⟩
    obtain ⟨rfl, hk⟩ := range_at hx
    have hR : El.gj A (x + 1) = El.step x (El.gj A x) := rfl
    have hRp := hp x hk
    have hRb : ∀ i j, i < n → j < n + r → QLt K1 (El.gj A x i j) := fun i j hi hj => hb x i j (by omega) hi hj
    have hRb0 : ∀ i j, i < n → j < n → QLt K0 (El.gj A x i j) := fun i j hi hj => hb0 x i j (by omega) hi hj
    have hRq : ∀ j, j < n + r → QLt K1 (El.gj A x x j / El.gj A x x x) := fun j hj => by
      have := hb (x + 1) x j (by omega) hk hj
      rw [hR] at this
      unfold El.step at this
      rw [if_pos rfl] at this
      exact this
    rw [hR]
    generalize El.gj A x = R at *
    have ex := atI_rows (n := n) (w := n + r) (R := R) hk
    have exx := atI_row (w := n + r) (f := R x) (j := x) (by omega)
    simp [ex, exx]
    unfold rowL
    refine WLc_map (fun j => pQ (R x j)) (fun j => pQ (R x j / R x x)) (List.range (n + r)) (fun j hj => ?_) ?_
    · rw [List.mem_range] at hj
      simp
      exact WF.of (e_lover ((hRb x j hk hj).bd) ((hRb x x hk (by omega)).bd) hRp) (by simp)
    refine ⟨szle (by simp; omega), ?_⟩
    have es : (rowsL n (n + r) R).set x (PyData.list (List.map (fun j => pQ (R x j / R x x)) (List.range (n + r)))) = rowsL n (n + r) (fun i => if i = x then (fun j => R x j / R x x) else R i) := rows_set (g := fun j => R x j / R x x) hk
    simp [Dh.putL, ixN_ofNat (n := n) hk, es, rowsL_len, range1_nat (n := n) (by omega)]
    -- the rows, one after another
    refine WFor_inv (fun i : Nat => PyData.int i) (List.range n) (fun t ρ s2 => s2 = s' ∧ ∃ x4 x5 x6 x7 x8, ρ = [some (.d (.list (rowsL n (n + r) A))), some (.o (rowsL n (n + r) (fun i => if i = x then (fun j => R x j / R x x) else if i < t then El.step x R i else R i))), some (.d (.int (x : Int))), some (.d (pQ (R x x))), x4, x5, x6, x7, x8]) ⟨rfl, x4, x5, x6, x7, x8, by simp⟩ ?_ ?_
    · rintro t y ρ s2 hy ⟨rfl, x4, x5, x6, x7, x8, rfl⟩
      obtain ⟨rfl, ht⟩ := range_at hy
      have ey := atI_rows (n := n) (w := n + r) (R := fun i => if i = x then (fun j => R x j / R x x) else if i < y then El.step x R i else R i) ht
      have ey2 := atI_rows (n := n) (w := n + r) (R := fun i => if i = x then (fun j => R x j / R x x) else if i < y then El.step x R i else R i) hk
      by_cases e : y = x
      · subst e
        have eyx := atI_row (w := n + r) (f := fun j => R y j / R y y) (j := y) (by omega)
        simp [ey, eyx, fEq_int]
        have e9 : rowsL n (n + r) (fun i => if i = y then (fun j => R y j / R y y) else if i < y + 1 then El.step y R i else R i) = rowsL n (n + r) (fun i => if i = y then (fun j => R y j / R y y) else if i < y then El.step y R i else R i) := rowsL_congr fun i j _ _ => by
          by_cases q : i = y
          · rw [if_pos q, if_pos q]
          · rw [if_neg q, if_neg q]
            by_cases q2 : i < y
            · rw [if_pos (by omega), if_pos q2]
            · rw [if_neg (by omega), if_neg q2]
        rw [e9]
      · have e' : ¬ (y : Int) = (x : Int) := by omega
        have lt : ¬ y < y := by omega
        have e9 : ∀ g : Nat → Rat, (∀ j, j < n + r → g j = El.step x R y j) → (rowsL n (n + r) (fun i => if i = x then (fun j => R x j / R x x) else if i < y then El.step x R i else R i)).set y (.list (rowL (n + r) g)) = rowsL n (n + r) (fun i => if i = x then (fun j => R x j / R x x) else if i < y + 1 then El.step x R i else R i) := fun g hg => by
          rw [rows_set ht]
          refine rowsL_congr fun i j hi hj => ?_
          by_cases q : i = y
          · subst q
            rw [if_pos rfl, if_neg e, if_pos (by omega)]
            exact hg j hj
          · rw [if_neg q]
            by_cases q1 : i = x
            · rw [if_pos q1, if_pos q1]
            · rw [if_neg q1, if_neg q1]
              by_cases q2 : i < y
              · rw [if_pos q2, if_pos (by omega)]
              · rw [if_neg q2, if_neg (by omega)]
        have eyx := atI_row (w := n + r) (f := R y) (j := x) (by omega)
        simp [ey, eyx, e, e', lt, ix_num, fEq_int]
        by_cases z : R y x = 0
        · simp [z]
          rw [← e9 (R y) fun j hj => by unfold El.step; rw [if_neg e, z]; grind]
          rw [set_same]
          rw [rowsL_at ht]
          simp [e, lt]
        · have z' : ¬ (R y x).num = 0 := fun q => z (Rat.num_eq_zero.mp q)
          simp [z, ey, ey2, e, lt]
          unfold rowL
          rw [pairs_same]
          refine WLc_map (fun j => PyData.tuple [pQ (R y j), pQ (R x j / R x x)]) (fun j => pQ (R y j - R y x * (R x j / R x x))) (List.range (n + r)) (fun j hj => ?_) ?_
          · rw [List.mem_range] at hj
            have b1 := hRq j hj
            simp
            refine WF.of (e_ltimes ((hRb y x ht (by omega)).bd) (b1.bd)) ?_
            simp
            exact WF.of (e_lminus ((hRb y j ht hj).bd) ((QLt_mul (hRb0 y x ht hk) b1).bd)) (by simp)
          refine ⟨szle (by simp; omega), ?_⟩
          have := e9 (fun j => R y j - R y x * (R x j / R x x)) fun j hj => by unfold El.step; rw [if_neg e]
          unfold rowL at this
          simp [Dh.putL, rowsL_len, ixN_ofNat (n := n) ht]
          rw [this]
    · rintro ρ s2 ⟨rfl, x4, x5, x6, x7, x8, rfl⟩
      rw [List.length_range]
      simp
      refine rowsL_congr fun i j hi hj => ?_
      by_cases q : i = x
      · rw [if_pos q]; subst q; unfold El.step; rw [if_pos rfl]
      · rw [if_neg q, if_pos hi]
  · rintro ρ s' ⟨rfl, x2, x3, x4, x5, x6, x7, x8, rfl⟩
    rw [List.length_range]
    simp [frzs, frz1, rowsL_len]
    unfold rowsL
    refine WLc_map (fun i => PyData.list (rowL (n + r) (El.gj A n i))) (fun i => PyData.tuple (rowL r fun j => El.gj A n i (n + j))) (List.range n) (fun i hi => ?_) ?_
    · simp [fSl, cutD_drop, row_drop]
    refine ⟨szle (by simp; omega), ?_⟩
    simp
theorem e_lsolved {n r K : Nat} {A : Nat → Nat → Rat} {s : Sto} (hp : ∀ k, k < n → El.gj A k k k ≠ 0) (hb : ∀ k i j, k ≤ n → i < n → j < n + r → QLt K (El.gj A k i j)) (hK : K ≤ 1500) (hn : n + r ≤ 500) :
    f_law_solved [.d (.list (rowsL n (n + r) A))] s = some (.f ((List.range n).map fun i => PyData.tuple (rowL r fun j => El.gj A n i (n + j))), s) :=
  e_lsolvedC hp (fun k i j a b c => hb k i j a b (by omega)) hb (by omega) hn
end WW
namespace Dh
open PySem PySem.Spec L2 PySem.W
theorem Mv_ltW {g o : Nat} {h : RHouse} {plan : List (List Rat)} (wd : Wd g h) (pl : PlanOk o h plan) {i : Nat} (hi : i < h.stands.length) (l : Nat) : QLt (1 + (10 + o + 1) * 9) (Mv h plan i l) := by
  have hs := wd.each _ (stand_mem hi)
  refine (qsum_lt (k := 10 + o) fun q hq => ?_).mono ?_
  · obtain ⟨p, hp, rfl⟩ := List.mem_map.mp hq
    have z := List.of_mem_zip (a := p.1) (b := p.2) hp
    exact QLt_mul ((hs.2.2 _ z.2).1.chF_lt l).1 (pl.each i _ z.1).2
  · rw [List.length_map, List.length_zip]
    have : min (plan.getD i []).length (h.stands.getD i []).length ≤ 9 := by omega
    have := Nat.mul_le_mul_left (10 + o + 1) this
    omega
def par3fK (ρ : Ev) (i j l : Nat) (rs : List R) : Option Ev := match rs with
  | [.f c, .f d, .f f] => some (((ρ.set i (some (.d (.list c)))).set j (some (.d (.list d)))).set l (some (.o f)))
  | _ => none
theorem mPar3f_eq {i j l : Nat} {as : Ma} {ρ : Ev} {s : Sto} {x : List R} {s1 : Sto} (e : as ρ s = some (x, s1)) : mPar3f i j l as ρ s = (par3fK ρ i j l x).map fun ρ1 => (.nx, ρ1, s1) := by
  unfold mPar3f par3fK
  rw [e]
  split
  · rename_i c d f s2 e2
    cases e2
    rfl
  · rename_i h
    split
    · rename_i c d f
      exact absurd rfl (h c d f s1)
    · rfl
@[simp ↓] theorem ws_par3f {i j l : Nat} {as : Ma} {ρ : Ev} {s : Sto} {QS : Out → Ev → Sto → Prop} : WS (mPar3f i j l as) ρ s QS = WA as ρ s fun rs s1 => WO (par3fK ρ i j l rs) fun ρ1 => QS .nx ρ1 s1 := by
  apply propext
  unfold WS WA WO
  constructor
  · rintro ⟨o, ρ', s', e, q⟩
    rcases h : as ρ s with _ | ⟨x, s1⟩
    · unfold mPar3f at e; rw [h] at e; cases e
    · rw [mPar3f_eq h] at e
      obtain ⟨ρ1, e1, e2⟩ := Option.map_eq_some_iff.mp e
      cases e2
      exact ⟨x, _, rfl, _, e1, q⟩
  · rintro ⟨x, s1, h, ρ1, e1, q⟩
    exact ⟨_, _, _, by rw [mPar3f_eq h, e1]; rfl, q⟩
@[simp] theorem par3fK_fff {i j l : Nat} {ρ : Ev} {x y z : List PyData} : par3fK ρ i j l [.f x, .f y, .f z] = some (((ρ.set i (some (.d (.list x)))).set j (some (.d (.list y)))).set l (some (.o z))) := rfl
end Dh
namespace Dh
open PySem PySem.Spec L2 PySem.W
end Dh
namespace Dh
open PySem PySem.Spec L2 PySem.W
@[simp] theorem ev_fLz {x y : R} : fLz [x, y] = (match zipQ2 [x, y] with | some ps => if ps.length ≤ 1000000 then some (.f ps) else none | none => none) := rfl
/-- odds of a stand, a start -/
structure OddsOk (n : Nat) (l : List Rat) : Prop where
  len : l.length = n
  each : ∀ q ∈ l, 0 ≤ q ∧ QLt 10 q
  one : qsum l = 1
  cd : ∃ S : Nat, 0 < S ∧ S < 2 ^ 9 ∧ ∀ q ∈ l, CD S S q
theorem PlanOk.of {h : RHouse} {plan : List (List Rat)} (hl : plan.length = h.stands.length) (hr : ∀ i, i < h.stands.length → OddsOk (h.stands.getD i []).length (plan.getD i [])) : PlanOk 10 h plan where
  len := hl
  row := fun i hi => (hr i hi).len
  each := fun i q hq => by
    by_cases hi : i < h.stands.length
    · exact (hr i hi).each q hq
    · rw [List.getD_eq_getElem?_getD, List.getElem?_eq_none (by omega)] at hq; cases hq
  one := fun i hi => (hr i hi).one
  cd := fun i => by
    by_cases hi : i < h.stands.length
    · exact (hr i hi).cd
    · refine ⟨1, by decide, by decide, fun q hq => ?_⟩
      rw [List.getD_eq_getElem?_getD, List.getElem?_eq_none (by omega)] at hq; cases hq
theorem HouseOk.mono {N D P N' D' : Nat} {h : RHouse} (ok : HouseOk N D P h) (hN : h.stands.length ≤ N') (hD : ∀ st ∈ h.stands, st.length ≤ D') : HouseOk N' D' P h :=
  ⟨ok.s0, ok.s1, ok.sb, ok.p1, ok.pP, ok.n1, hN, fun st hst => ⟨(ok.each st hst).1, hD st hst, (ok.each st hst).2.2⟩⟩
end Dh
namespace Dh
theorem min_idx {f : Nat → Rat} : ∀ n, 0 < n → ∃ i, i < n ∧ ∀ j, j < n → f i ≤ f j
  | 1, _ => ⟨0, by decide, fun j hj => by have : j = 0 := by omega
                                          subst this; exact Rat.le_refl⟩
  | n + 2, _ => by
    obtain ⟨i, hi, h⟩ := min_idx (f := f) (n + 1) (by omega)
    by_cases e : f i ≤ f (n + 1)
    · refine ⟨i, by omega, fun j hj => ?_⟩
      by_cases q : j = n + 1
      · subst q; exact e
      · exact h j (by omega)
    · refine ⟨n + 1, by omega, fun j hj => ?_⟩
      by_cases q : j = n + 1
      · subst q; exact Rat.le_refl
      · have := h j (by omega); grind
theorem sm_le {f g : Nat → Rat} : ∀ n, (∀ i, i < n → f i ≤ g i) → El.sm n f ≤ El.sm n g
  | 0, _ => Rat.le_refl
  | n + 1, h => by
    have a := sm_le n fun i hi => h i (by omega)
    have b := h n (by omega)
    show El.sm n f + f n ≤ El.sm n g + g n
    grind
theorem ahead_sm {n : Nat} {v : Nat → Rat} : ∀ {cs : List (Nat × Rat)}, cs.Pairwise (fun a b => a.1 < b.1) → (∀ c ∈ cs, c.1 < n) → ahead cs v = El.sm n (fun l => chF cs l * v l)
  | [], _, _ => (El.sm_zero fun i hi => by rw [show chF [] i = 0 from rfl, Rat.zero_mul]).symm
  | c :: cs, h, hb => by
    rw [List.pairwise_cons] at h
    have ih := ahead_sm (v := v) h.2 fun x hx => hb x (List.mem_cons_of_mem _ hx)
    have z : chF cs c.1 = 0 := by
      rcases chF_mem (cs := cs) (i := c.1) with e | ⟨x, hx, e, _⟩
      · exact e
      · have := h.1 x hx; omega
    have e : El.sm n (fun l => chF (c :: cs) l * v l) = El.sm n (fun i => (if c.1 = i then c.2 * v i else 0) + chF cs i * v i) := El.sm_congr fun i _ => by
      rw [chF_cons]
      by_cases q : c.1 = i
      · subst q; rw [if_pos rfl, if_pos rfl, z]; grind
      · rw [if_neg q, if_neg q]; grind
    rw [e, El.sm_add, ← ih, El.sm_one (hb c List.mem_cons_self) fun i _ hi => by rw [if_neg (fun z => hi z.symm)], if_pos rfl]
    unfold ahead
    rw [List.map_cons, qsum_cons]
theorem ChOk.ahead {n : Nat} {cs : List (Nat × Rat)} {v : Nat → Rat} (h : ChOk n cs) : ahead cs v = El.sm n (fun l => chF cs l * v l) := ahead_sm h.asc fun c hc => (h.each c hc).1
theorem ChOk.sum1 {n : Nat} {cs : List (Nat × Rat)} (h : ChOk n cs) : El.sm n (chF cs) = 1 := by
  rw [chF_sum h.asc fun c hc => (h.each c hc).1]; exact h.one
end Dh
namespace Dh
open PySem PySem.Spec L2 PySem.W
section
variable {g : Nat} {h : RHouse} {w : List Rat} {c : List Nat}
theorem p2w : ∀ a b x y : Nat, x ≤ 2 ^ a → y ≤ 2 ^ b → x * y ≤ 2 ^ (a + b) := fun a b x y hx hy => by rw [Nat.pow_add]; exact Nat.mul_le_mul hx hy
/-- small worths over one number -/
structure Vw (n : Nat) (v : Nat → Rat) : Prop where
  lt : ∀ i, i < n → QLt 890 (v i)
  cd : ∃ V : Nat, 0 < V ∧ V ≤ 2 ^ 712 ∧ ∀ i, i < n → CD V (2 ^ 712) (v i)
theorem Vw.ahead {n : Nat} {v : Nat → Rat} {cs : List (Nat × Rat)} (V : Vw n v) (hch : ChOk n cs) (hn : n ≤ 4) (i : Nat) : QLt 725 (qsum ((cs.map fun c => c.2 * v c.1).take i)) := by
  obtain ⟨V, v0, v1, v2⟩ := V.cd
  obtain ⟨S, s0, s1, s2⟩ := hch.cd
  have hl := hch.len
  have c := CD_sum_le (D := S * V) (M := S * 2 ^ 712) (n := 4) (l := (cs.map fun c => c.2 * v c.1).take i) (fun q hq => by
    obtain ⟨x, hx, rfl⟩ := List.mem_map.mp (mem_take hq)
    exact (s2 x hx).mul (v2 _ (hch.each x hx).1)) (by rw [List.length_take, List.length_map]; omega)
  have a1 : S * V ≤ 2 ^ (9 + 712) := p2w _ _ _ _ (Nat.le_of_lt s1) v1
  have a2 : S * 2 ^ 712 ≤ 2 ^ (9 + 712) := p2w _ _ _ _ (Nat.le_of_lt s1) (Nat.le_refl _)
  have a3 : 4 * (S * 2 ^ 712) ≤ 2 ^ (2 + (9 + 712)) := p2w 2 _ _ _ (by decide) a2
  exact c.qlt (Nat.mul_pos s0 v0) (Nat.lt_of_le_of_lt a1 (Nat.pow_lt_pow_right (by decide) (by decide))) (Nat.lt_of_le_of_lt a3 (Nat.pow_lt_pow_right (by decide) (by decide)))
end
theorem eqvAll_iN : ∀ c d : List Nat, PyData.eqvAll (c.map iN) (d.map iN) = decide (c = d)
  | [], [] => by simp [PyData.eqvAll]
  | [], _ :: _ => by simp [PyData.eqvAll]
  | _ :: _, [] => by simp [PyData.eqvAll]
  | x :: c, y :: d => by
    rw [List.map_cons, List.map_cons]
    simp only [PyData.eqvAll]
    rw [eqvAll_iN c d, show PyData.eqv (iN x) (iN y) = decide ((x : Int) = (y : Int)) from eqv_int]
    by_cases e : x = y
    · subst e; simp
    · have e2 : ¬ ((x : Int) = (y : Int)) := by omega
      simp [e, e2]
theorem fEq_nums {c d : List Nat} {neg : Bool} (h1 : eqOk (.tuple (c.map iN)) = true) (h2 : eqOk (.tuple (d.map iN)) = true) : fEq neg (.d (.tuple (c.map iN))) (.d (.tuple (d.map iN))) = some (.d (.bool (if neg then !decide (c = d) else decide (c = d)))) := by
  show (if eqOk (.tuple (c.map iN)) = true ∧ eqOk (.tuple (d.map iN)) = true then some (R.d (.bool (if neg then !PyData.eqv (.tuple (c.map iN)) (.tuple (d.map iN)) else PyData.eqv (.tuple (c.map iN)) (.tuple (d.map iN))))) else none) = _
  rw [if_pos ⟨h1, h2⟩, show PyData.eqv (.tuple (c.map iN)) (.tuple (d.map iN)) = PyData.eqvAll (c.map iN) (d.map iN) by simp only [PyData.eqv], eqvAll_iN]
/-- small numbers in a row -/
theorem Pn.nums {c : List Nat} {n : Nat} (h : ∀ k ∈ c, k < 256) (hn : c.length ≤ n) : Pn 8 1 (n * 9) (.tuple (c.map iN)) :=
  Pn.tup (w := 8) (k := 0) (fun x hx => by
    obtain ⟨k, hk, rfl⟩ := List.mem_map.mp hx
    exact Pn.int (by decide) (by decide) (by have := h k hk; rw [Int.natAbs_natCast]; omega)) (by rw [List.length_map]; exact hn)
theorem ChoiceOk.each {N D P g : Nat} {h : RHouse} {c : List Nat} (ok : HouseOk N D P h g) (hc : ChoiceOk h c) : ∀ k ∈ c, k < D := fun k hk => by
  obtain ⟨i, hi⟩ := List.getElem?_of_mem hk
  have hl : i < h.stands.length := by rw [← hc.1]; exact (List.getElem?_eq_some_iff.mp hi).1
  have := hc.2 i _ k (stand_at hl) hi
  have := (ok.each _ (stand_mem hl)).2.1
  omega
def chs (ns : List Nat) : List (List Nat) := ns.foldl (fun acc n => acc.flatMap fun c => (List.range n).map fun a => c ++ [a]) [[]]
theorem chs_snoc {ns : List Nat} {n : Nat} : chs (ns ++ [n]) = (chs ns).flatMap fun c => (List.range n).map fun a => c ++ [a] := by simp [chs]
theorem chs_mem' (ns : List Nat) : ∀ c : List Nat, c ∈ chs ns ↔ c.length = ns.length ∧ ∀ i, i < ns.length → c.getD i 0 < ns.getD i 0 := by
  refine snoc_ind ?_ ?_ ns
  · intro c
    simp [chs]
  · intro ns n ih c
    rw [chs_snoc, List.mem_flatMap]
    constructor
    · rintro ⟨d, hd, hc⟩
      obtain ⟨a, ha, rfl⟩ := List.mem_map.mp hc
      obtain ⟨h1, h2⟩ := (ih d).mp hd
      rw [List.mem_range] at ha
      refine ⟨by simp [h1], fun i hi => ?_⟩
      rw [List.length_append, List.length_singleton] at hi
      by_cases e : i < ns.length
      · rw [List.getD_eq_getElem?_getD, List.getElem?_append_left (by omega), ← List.getD_eq_getElem?_getD, List.getD_eq_getElem?_getD (l := ns ++ [n]), List.getElem?_append_left (by omega), ← List.getD_eq_getElem?_getD]
        exact h2 i e
      · have e2 : i = ns.length := by omega
        subst e2
        rw [List.getD_eq_getElem?_getD, List.getElem?_append_right (by omega), List.getD_eq_getElem?_getD, List.getElem?_append_right (by omega), h1, Nat.sub_self]
        exact ha
    · rintro ⟨h1, h2⟩
      rw [List.length_append, List.length_singleton] at h1
      have e1 : c = c.take ns.length ++ [c.getD ns.length 0] := by
        rw [← take_snoc (getD_at (d := 0) (by omega)), List.take_of_length_le (by omega)]
      refine ⟨c.take ns.length, (ih _).mpr ⟨by rw [List.length_take]; omega, fun i hi => ?_⟩, ?_⟩
      · have := h2 i (by simp; omega)
        rw [List.getD_eq_getElem?_getD (l := ns ++ [n]), List.getElem?_append_left (by omega), ← List.getD_eq_getElem?_getD] at this
        rw [List.getD_eq_getElem?_getD, List.getElem?_take, if_pos hi, ← List.getD_eq_getElem?_getD]
        exact this
      · have := h2 ns.length (by simp)
        rw [List.getD_eq_getElem?_getD (l := ns ++ [n]), List.getElem?_append_right (by omega), Nat.sub_self] at this
        exact List.mem_map.mpr ⟨c.getD ns.length 0, List.mem_range.mpr (by simpa using this), e1.symm⟩
theorem chs_mem {c ns : List Nat} : c ∈ chs ns ↔ c.length = ns.length ∧ ∀ i, i < ns.length → c.getD i 0 < ns.getD i 0 := chs_mem' ns c
theorem counts_at {h : RHouse} {i : Nat} (hi : i < h.stands.length) : (counts h).getD i 0 = (h.stands.getD i []).length := by
  unfold counts
  rw [List.getD_eq_getElem?_getD, List.getElem?_map, stand_at hi]; rfl
theorem chs_choice {h : RHouse} {c : List Nat} : c ∈ chs (counts h) ↔ ChoiceOk h c := by
  have hl : (counts h).length = h.stands.length := by simp [counts]
  rw [chs_mem, hl]
  constructor
  · rintro ⟨h1, h2⟩
    refine ⟨h1, fun i st k hst hk => ?_⟩
    have hi : i < h.stands.length := (List.getElem?_eq_some_iff.mp hst).1
    have := h2 i hi
    rw [counts_at hi, List.getD_eq_getElem?_getD, hk, List.getD_eq_getElem?_getD, hst] at this
    exact this
  · intro hc
    exact ⟨hc.1, fun i hi => by rw [counts_at hi]; exact hc.lt hi⟩
theorem countP_lt {α : Type} {p q : α → Bool} : ∀ {l : List α}, (∀ x, p x = true → q x = true) → (∃ x ∈ l, q x = true ∧ p x = false) → l.countP p < l.countP q
  | [], _, ⟨x, hx, _⟩ => by cases hx
  | y :: l, h, ⟨x, hx, h1, h2⟩ => by
    rw [List.countP_cons, List.countP_cons]
    rcases List.mem_cons.mp hx with rfl | hx
    · rw [h1, h2]
      have := List.countP_mono_left (l := l) (p := p) (q := q) fun z _ => h z
      simp
      omega
    · have := countP_lt h ⟨x, hx, h1, h2⟩
      by_cases e : p y = true
      · rw [e, h y e]; simp; omega
      · simp only [Bool.not_eq_true] at e
        rw [e]
        simp
        split <;> omega
end Dh
namespace Dh
open PySem PySem.Spec L2 PySem.W
def par2fK (ρ : Ev) (i j : Nat) (rs : List R) : Option Ev := match rs with
  | [.f c, .f d] => some ((ρ.set i (some (.o c))).set j (some (.o d)))
  | _ => none
theorem mPar2f_eq {i j : Nat} {as : Ma} {ρ : Ev} {s : Sto} {x : List R} {s1 : Sto} (e : as ρ s = some (x, s1)) : mPar2f i j as ρ s = (par2fK ρ i j x).map fun ρ1 => (.nx, ρ1, s1) := by
  unfold mPar2f par2fK
  rw [e]
  split
  · rename_i c d s2 e2
    cases e2
    rfl
  · rename_i h
    split
    · rename_i c d
      exact absurd rfl (h c d s1)
    · rfl
@[simp ↓] theorem ws_par2f {i j : Nat} {as : Ma} {ρ : Ev} {s : Sto} {QS : Out → Ev → Sto → Prop} : WS (mPar2f i j as) ρ s QS = WA as ρ s fun rs s1 => WO (par2fK ρ i j rs) fun ρ1 => QS .nx ρ1 s1 := by
  apply propext
  unfold WS WA WO
  constructor
  · rintro ⟨o, ρ', s', e, q⟩
    rcases h : as ρ s with _ | ⟨x, s1⟩
    · unfold mPar2f at e; rw [h] at e; cases e
    · rw [mPar2f_eq h] at e
      obtain ⟨ρ1, e1, e2⟩ := Option.map_eq_some_iff.mp e
      cases e2
      exact ⟨x, _, rfl, _, e1, q⟩
  · rintro ⟨x, s1, h, ρ1, e1, q⟩
    exact ⟨_, _, _, by rw [mPar2f_eq h, e1]; rfl, q⟩
@[simp] theorem par2fK_ff {i j : Nat} {ρ : Ev} {x y : List PyData} : par2fK ρ i j [.f x, .f y] = some ((ρ.set i (some (.o x))).set j (some (.o y))) := rfl
theorem atI_mapD {α : Type} {l : List α} {f : α → PyData} {i : Nat} (d : α) (hi : i < l.length) : atI (l.map f) (i : Int) = some (f (l.getD i d)) := by
  rw [atI_ofNat (by rw [List.length_map]; exact hi), List.getElem?_map, getD_at (d := d) hi]; rfl
@[simp] theorem fEqE_t {xs : List PyData} {neg : Bool} : fEqE neg (.d (.tuple xs)) (.d (.tuple [])) = some (.d (.bool (if neg then !xs.isEmpty else xs.isEmpty))) := rfl
def par2gK (ρ : Ev) (i j : Nat) (rs : List R) : Option Ev := match rs with
  | [r, q] => match toCl r, toCl q with
    | some c, some d => some ((ρ.set i (some c)).set j (some d))
    | _, _ => none
  | _ => none
theorem mPar2g_eq {i j : Nat} {as : Ma} {ρ : Ev} {s : Sto} {x : List R} {s1 : Sto} (e : as ρ s = some (x, s1)) : mPar2g i j as ρ s = (par2gK ρ i j x).map fun ρ1 => (.nx, ρ1, s1) := by
  unfold mPar2g par2gK
  rw [e]
  split
  · rename_i r q s2 e2
    cases e2
    dsimp only
    rcases toCl r with _ | c
    · rfl
    · rcases toCl q with _ | d
      · rfl
      · rfl
  · rename_i h
    split
    · rename_i r q
      exact absurd rfl (h r q s1)
    · rfl
@[simp ↓] theorem ws_par2g {i j : Nat} {as : Ma} {ρ : Ev} {s : Sto} {QS : Out → Ev → Sto → Prop} : WS (mPar2g i j as) ρ s QS = WA as ρ s fun rs s1 => WO (par2gK ρ i j rs) fun ρ1 => QS .nx ρ1 s1 := by
  apply propext
  unfold WS WA WO
  constructor
  · rintro ⟨o, ρ', s', e, q⟩
    rcases h : as ρ s with _ | ⟨x, s1⟩
    · unfold mPar2g at e; rw [h] at e; cases e
    · rw [mPar2g_eq h] at e
      obtain ⟨ρ1, e1, e2⟩ := Option.map_eq_some_iff.mp e
      cases e2
      exact ⟨x, _, rfl, _, e1, q⟩
  · rintro ⟨x, s1, h, ρ1, e1, q⟩
    exact ⟨_, _, _, by rw [mPar2g_eq h, e1]; rfl, q⟩
@[simp] theorem par2gK_ff {i j : Nat} {ρ : Ev} {x y : List PyData} : par2gK ρ i j [.f x, .f y] = some ((ρ.set i (some (.o x))).set j (some (.o y))) := rfl
@[simp] theorem par2gK_fd {i j : Nat} {ρ : Ev} {x : List PyData} {y : PyData} : par2gK ρ i j [.f x, .d y] = some ((ρ.set i (some (.o x))).set j (some (.d y))) := rfl
@[simp] theorem par2gK_df {i j : Nat} {ρ : Ev} {x : PyData} {y : List PyData} : par2gK ρ i j [.d x, .f y] = some ((ρ.set i (some (.d x))).set j (some (.o y))) := rfl
@[simp] theorem par2gK_dd {i j : Nat} {ρ : Ev} {x y : PyData} : par2gK ρ i j [.d x, .d y] = some ((ρ.set i (some (.d x))).set j (some (.d y))) := rfl
theorem WLc.use {vs : List Nat} {g : Gx} {t : Mt} {e : Mx} {xs : List PyData} {ρ : Ev} {s : Sto} {P Q : List PyData → Sto → Prop} (h : WLc vs g t e xs ρ s P) (k : ∀ ys s', P ys s' → Q ys s') : WLc vs g t e xs ρ s Q := by
  obtain ⟨ys, s', e, p⟩ := h
  exact ⟨ys, s', e, k ys s' p⟩
theorem bools_of {α : Type} {f : α → Bool} : ∀ l : List α, boolsOf (l.map fun x => PyData.bool (f x)) = some (l.map f)
  | [] => rfl
  | x :: l => by
    rw [List.map_cons]
    show (boolsOf (l.map fun x => PyData.bool (f x))).map _ = _
    rw [bools_of l]
    rfl
theorem fAny_of {α : Type} {f : α → Bool} {l : List α} : fAny [.f (l.map fun x => PyData.bool (f x))] = some (.d (.bool (l.any f))) := by
  show (match rdL (.f (l.map fun x => PyData.bool (f x))) with | some xs => (boolsOf xs).map fun bs : List Bool => R.d (.bool (bs.any id)) | none => none) = _
  rw [ev_rdL2]
  dsimp only
  rw [bools_of, Option.map_some, List.any_map]
  rfl
theorem fAll_of {α : Type} {f : α → Bool} {l : List α} : fAll [.f (l.map fun x => PyData.bool (f x))] = some (.d (.bool (l.all f))) := by
  show (match rdL (.f (l.map fun x => PyData.bool (f x))) with | some xs => (boolsOf xs).map fun bs : List Bool => R.d (.bool (bs.all id)) | none => none) = _
  rw [ev_rdL2]
  dsimp only
  rw [bools_of, Option.map_some, List.all_map]
  rfl
end Dh
namespace Dh
open PySem PySem.Spec L2 PySem.W
theorem fEq_strs {a : Str} {neg : Bool} : fEq neg (.d (.str a)) (.d (.str a)) = some (.d (.bool (!neg))) := by
  show some (R.d (.bool (if neg then !(a == a) else a == a))) = _
  rw [beq_self_eq_true]
  cases neg <;> rfl
def cT (c : List Nat) : PyData := .tuple (c.map iN)
def grow (n : Nat) (L : List (List Nat)) : List (List Nat) := L.flatMap fun c => (List.range n).map fun a => c ++ [a]
theorem grow_len {n : Nat} : ∀ L : List (List Nat), (grow n L).length = L.length * n
  | [] => by simp [grow]
  | c :: L => by
    have := grow_len (n := n) L
    unfold grow at this ⊢
    rw [List.flatMap_cons, List.length_append, this, List.length_map, List.length_range, List.length_cons, Nat.add_mul]
    omega
theorem grow_take {n k : Nat} {L : List (List Nat)} {c : List Nat} (h : L[k]? = some c) : grow n (L.take (k + 1)) = grow n (L.take k) ++ (List.range n).map fun a => c ++ [a] := by
  rw [take_snoc h]
  simp [grow]
theorem chs_len {b : Nat} (ns : List Nat) : (∀ n ∈ ns, n ≤ b) → (chs ns).length ≤ b ^ ns.length := by
  refine snoc_ind ?_ ?_ ns
  · intro _; simp [chs]
  · intro ns n ih h
    rw [chs_snoc, show ((chs ns).flatMap fun c => (List.range n).map fun a => c ++ [a]) = grow n (chs ns) from rfl, grow_len, List.length_append, List.length_singleton, Nat.pow_succ]
    exact Nat.mul_le_mul (ih fun x hx => h x (by simp [hx])) (h n (by simp))
end Dh
namespace WW
open PySem PySem.Spec L2 PySem.W Dh
section
variable {g : Nat} {h : RHouse} {w : List Rat} {c : List Nat} {s : Sto}
theorem w_grow {L : List (List Nat)} {st : List RDeed} {x0 x4 x5 : Option Cl} {Q : Out → Ev → Sto → Prop} (hL : L.length ≤ 81) (h3 : st.length ≤ 3) (hc : ∀ c ∈ L, c.length ≤ 10)
    (hq : ∀ y4 y5, Q .nx [x0, some (.d (.list (L.map cT))), some (.d (pStand st)), some (.o ((grow st.length L).map cT)), y4, y5] s) :
    WFor (gN 4) (mFor (mArgI range1 (maCons (mA fLen (maCons (mVar 2) maNil)) maNil)) (gN 5) (mApp 3 (m2 fAdd (mVar 4) (mA fTup (maCons (mVar 5) maNil))))) (L.map cT) [x0, some (.d (.list (L.map cT))), some (.d (pStand st)), some (.o []), x4, x5] s Q := by
  have hbig : ∀ k, k ≤ 81 → k * st.length ≤ 243 := fun k hk => by
    have := Nat.mul_le_mul hk h3; omega
  refine WFor_inv cT L (fun k ρ s' => s' = s ∧ ∃ x4 x5, ρ = [x0, some (.d (.list (L.map cT))), some (.d (pStand st)), some (.o ((grow st.length (L.take k)).map cT)), x4, x5]) ⟨rfl, x4, x5, rfl⟩ ?_ ?_
  · rintro k c ρ s' hk ⟨rfl, x4, x5, rfl⟩
    have hcl := hc c (List.mem_of_getElem? hk)
    have hkl : k < L.length := (List.getElem?_eq_some_iff.mp hk).1
    have hgl : (grow st.length (L.take k)).length ≤ 243 := by
      rw [grow_len, List.length_take, Nat.min_eq_left (by omega)]; exact hbig k (by omega)
    simp [pStand]
    rw [show range1 [.d (.int (st.length : Int))] = _ from range1_nat (by omega)]
    simp
    refine WFor_inv (fun a : Nat => PyData.int a) (List.range st.length) (fun b ρ s2 => s2 = s' ∧ ∃ x5, ρ = [x0, some (.d (.list (L.map cT))), some (.d (pStand st)), some (.o ((grow st.length (L.take k) ++ (List.range b).map fun a => c ++ [a]).map cT)), some (.d (cT c)), x5]) ⟨rfl, x5, by simp [pStand]⟩ ?_ ?_
    · rintro b x ρ s2 hb ⟨rfl, x5, rfl⟩
      obtain ⟨rfl, hb⟩ := range_at hb
      simp [cT, sz1, fAdd, szle (show c.length + 1 ≤ 1000 by omega), szlt (show (grow st.length (L.take k)).length + x ≤ 1000 by omega)]
      rw [List.range_succ, List.map_append]
      simp [cT, iN, Function.comp_def]
    · rintro ρ s2 ⟨rfl, x5, rfl⟩
      rw [List.length_range]
      simp [grow_take hk]
      rfl
  · rintro ρ s' ⟨rfl, x4, x5, rfl⟩
    rw [List.take_length]
    exact hq x4 x5
theorem e_lchoices {P : Nat} (ok : HouseOk 4 3 P h g) : f_law_choices [.d (pHouse h)] s = some (.d (.list ((chs (counts h)).map cT)), s) := by
  have hn := ok.nN
  have hn1 := ok.n1
  have hcl : (counts h).length = h.stands.length := by simp [counts]
  refine WF.eq (WF.body rfl ?_)
  simp [m_law_choices, List.replicate_succ, pHouse, sz1]
  refine WFor_inv pStand h.stands (fun i ρ s' => s' = s ∧ ∃ cl x2 x3 x4 x5, ρ = [some (.d (pHouse h)), some cl, x2, x3, x4, x5] ∧ (cl = .d (.list ((chs ((counts h).take i)).map cT)) ∨ (i = 0 ∧ cl = .o [.tuple []]))) ⟨rfl, _, none, none, none, none, rfl, .inr ⟨rfl, rfl⟩⟩ ?_ ?_
  · rintro i st ρ s' hx ⟨rfl, cl, x2, x3, x4, x5, rfl, hcl2⟩
    have hi : i < h.stands.length := (List.getElem?_eq_some_iff.mp hx).1
    have hst := ok.each _ (List.mem_of_getElem? hx)
    have hci : (counts h)[i]? = some st.length := by unfold counts; rw [List.getElem?_map, hx]; rfl
    have hL : (chs ((counts h).take i)).length ≤ 81 := by
      refine Nat.le_trans (chs_len (b := 3) _ fun n hn => ?_) (Nat.le_trans (Nat.pow_le_pow_right (by decide) (show ((counts h).take i).length ≤ 4 by rw [List.length_take]; omega)) (by decide))
      obtain ⟨st', hst', rfl⟩ := List.mem_map.mp (mem_take hn)
      exact (ok.each _ hst').2.1
    have hlen : ∀ c ∈ chs ((counts h).take i), c.length ≤ 10 := fun c hc => by
      have := (chs_mem.mp hc).1
      rw [List.length_take] at this
      omega
    have next : chs ((counts h).take (i + 1)) = grow st.length (chs ((counts h).take i)) := by
      rw [take_snoc hci, chs_snoc]; rfl
    rcases hcl2 with rfl | ⟨rfl, rfl⟩
    · simp [frzs, frz1]
      refine w_grow hL hst.2.1 hlen fun y4 y5 => ?_
      simp [frzs, frz1]
      exact congrArg (List.map cT) next.symm
    · simp [frzs, frz1]
      have e0 : [PyData.tuple []] = (chs ((counts h).take 0)).map cT := by simp [chs, cT]
      rw [e0]
      refine w_grow hL hst.2.1 hlen fun y4 y5 => ?_
      simp [frzs, frz1]
      exact congrArg (List.map cT) next.symm
  · rintro ρ s' ⟨rfl, cl, x2, x3, x4, x5, rfl, hcl2⟩
    rcases hcl2 with rfl | ⟨e, _⟩
    · rw [← hcl, List.take_length]
      simp
    · omega
end
end WW
namespace Dh
open PySem PySem.Spec L2 PySem.W
/-- from where some stands are reached within so many steps -/
def near (n : Nat) (M : Nat → Nat → Rat) (es : List Nat) : Nat → Nat → Bool
  | 0, i => es.contains i
  | t + 1, i => near n M es t i || (List.range n).any fun l => near n M es t l && decide (0 < M i l)
def rc (n : Nat) (M : Nat → Nat → Rat) (es : List Nat) (i : Nat) : Bool := near n M es n i
section
variable {n : Nat} {M : Nat → Nat → Rat} {es : List Nat}
theorem near_up {t i : Nat} (h : near n M es t i = true) : near n M es (t + 1) i = true := by
  unfold near
  rw [h, Bool.true_or]
theorem near_mono {s t i : Nat} (h : s ≤ t) (a : near n M es s i = true) : near n M es t i = true := by
  induction t with
  | zero => rw [show s = 0 by omega] at a; exact a
  | succ t ih =>
    by_cases e : s = t + 1
    · rw [← e]; exact a
    · exact near_up (ih (by omega))
def Still (n : Nat) (M : Nat → Nat → Rat) (es : List Nat) (s : Nat) : Prop := ∀ i, i < n → near n M es (s + 1) i = near n M es s i
theorem still_on {s : Nat} (h : Still n M es s) : Still n M es (s + 1) := fun i hi => by
  have e : (List.range n).any (fun l => near n M es (s + 1) l && decide (0 < M i l)) = (List.range n).any fun l => near n M es s l && decide (0 < M i l) := by
    rw [Bool.eq_iff_iff, List.any_eq_true, List.any_eq_true]
    constructor
    · rintro ⟨l, hl, a⟩; exact ⟨l, hl, by rw [← h l (List.mem_range.mp hl)]; exact a⟩
    · rintro ⟨l, hl, a⟩; exact ⟨l, hl, by rw [h l (List.mem_range.mp hl)]; exact a⟩
  have e1 : near n M es (s + 1 + 1) i = (near n M es (s + 1) i || (List.range n).any fun l => near n M es (s + 1) l && decide (0 < M i l)) := rfl
  have e2 : near n M es (s + 1) i = (near n M es s i || (List.range n).any fun l => near n M es s l && decide (0 < M i l)) := rfl
  rw [e1, e, h i hi, ← e2, h i hi]
theorem still_late {s t : Nat} (h : Still n M es s) (k : s ≤ t) : Still n M es t := by
  induction t with
  | zero => rw [show (0 : Nat) = s by omega]; exact h
  | succ t ih =>
    by_cases e : s = t + 1
    · rw [← e]; exact h
    · exact still_on (ih (by omega))
theorem still_n : Still n M es n := by
  have key : ∀ t, (∃ s, s ≤ t ∧ Still n M es s) ∨ t ≤ (List.range n).countP (near n M es t) := fun t => by
    induction t with
    | zero => exact .inr (Nat.zero_le _)
    | succ t ih =>
      rcases ih with ⟨s, hs, a⟩ | a
      · exact .inl ⟨s, by omega, a⟩
      · by_cases q : Still n M es t
        · exact .inl ⟨t, by omega, q⟩
        · refine .inr ?_
          have : ∃ i, i < n ∧ near n M es (t + 1) i ≠ near n M es t i := Classical.byContradiction fun z => q fun i hi => Classical.byContradiction fun y => z ⟨i, hi, y⟩
          obtain ⟨i, hi, b⟩ := this
          have b2 : near n M es t i = false := by
            cases e : near n M es t i with
            | false => rfl
            | true => rw [e, near_up e] at b; exact absurd rfl b
          have b3 : near n M es (t + 1) i = true := by
            cases e : near n M es (t + 1) i with
            | true => rfl
            | false => rw [e, b2] at b; exact absurd rfl b
          have := countP_lt (p := near n M es t) (q := near n M es (t + 1)) (l := List.range n) (fun x hx => near_up hx) ⟨i, List.mem_range.mpr hi, b3, b2⟩
          omega
  rcases key n with ⟨s, hs, a⟩ | a
  · exact still_late a hs
  · have all : ∀ i ∈ List.range n, near n M es n i = true := by
      have := List.countP_le_length (p := near n M es n) (l := List.range n)
      rw [List.length_range] at this
      exact List.countP_eq_length.mp (by rw [List.length_range]; omega)
    exact fun i hi => by
      have := all i (List.mem_range.mpr hi)
      rw [this, near_up this]
theorem rc_end {i : Nat} (h : i ∈ es) : rc n M es i = true := near_mono (Nat.zero_le _) (by unfold near; rw [List.contains_iff_mem]; exact h)
theorem rc_step {i l : Nat} (hi : i < n) (hl : l < n) (h : rc n M es l = true) (hM : 0 < M i l) : rc n M es i = true := by
  unfold rc
  rw [← still_n i hi]
  unfold near
  rw [Bool.or_eq_true, List.any_eq_true]
  refine .inr ⟨l, List.mem_range.mpr hl, ?_⟩
  rw [Bool.and_eq_true, decide_eq_true_iff]
  exact ⟨h, hM⟩
theorem rc_ind {S : Nat → Prop} (h0 : ∀ i ∈ es, S i) (h1 : ∀ i l, i < n → l < n → S l → 0 < M i l → S i) {i : Nat} (hi : i < n) (h : rc n M es i = true) : S i := by
  have key : ∀ t i, i < n → near n M es t i = true → S i := fun t => by
    induction t with
    | zero => exact fun i _ a => h0 i (by unfold near at a; rw [List.contains_iff_mem] at a; exact a)
    | succ t ih =>
      intro i hi a
      unfold near at a
      rw [Bool.or_eq_true, List.any_eq_true] at a
      rcases a with a | ⟨l, hl, a⟩
      · exact ih i hi a
      · rw [Bool.and_eq_true, decide_eq_true_iff] at a
        exact h1 i l hi (List.mem_range.mp hl) (ih l (List.mem_range.mp hl) a.1) a.2
  exact key n i hi h
/-- the stands to be told by equations -/
def free (n : Nat) (M : Nat → Nat → Rat) (es : List Nat) : List Nat := (List.range n).filter fun i => rc n M es i && !es.contains i
def frN (n : Nat) (M : Nat → Nat → Rat) (es : List Nat) (b : Nat) : Nat := (free n M es).getD b 0
theorem free_nodup : (free n M es).Nodup := List.Pairwise.filter _ List.nodup_range
theorem free_mem {i : Nat} : i ∈ free n M es ↔ i < n ∧ rc n M es i = true ∧ i ∉ es := by
  unfold free
  rw [List.mem_filter, List.mem_range, Bool.and_eq_true, Bool.not_eq_true', ← Bool.not_eq_true, List.contains_iff_mem]
theorem free_len : (free n M es).length ≤ n := by
  have := List.length_filter_le (fun i => rc n M es i && !es.contains i) (List.range n)
  rw [List.length_range] at this
  exact this
theorem frN_at {b : Nat} (hb : b < (free n M es).length) : (free n M es)[b]? = some (frN n M es b) := getD_at hb
theorem frN_mem {b : Nat} (hb : b < (free n M es).length) : frN n M es b < n ∧ rc n M es (frN n M es b) = true ∧ frN n M es b ∉ es := free_mem.mp (List.mem_of_getElem? (frN_at hb))
theorem frN_inj {a b : Nat} (ha : a < (free n M es).length) (hb : b < (free n M es).length) (h : frN n M es a = frN n M es b) : a = b := by
  have e : (free n M es)[a]? = (free n M es)[b]? := by rw [frN_at ha, frN_at hb, h]
  exact (List.getElem?_inj ha free_nodup).mp e
theorem frN_of {i : Nat} (h : i < n) (hr : rc n M es i = true) (he : i ∉ es) : ∃ b, b < (free n M es).length ∧ frN n M es b = i := by
  obtain ⟨b, hb, e⟩ := List.mem_iff_getElem.mp (free_mem.mpr ⟨h, hr, he⟩)
  refine ⟨b, hb, ?_⟩
  unfold frN
  rw [List.getD_eq_getElem?_getD, List.getElem?_eq_getElem hb, e]; rfl
/-- the equations of the chances of coming -/
def comA (n : Nat) (M : Nat → Nat → Rat) (es : List Nat) : Nat → Nat → Rat := fun a b =>
  if b < (free n M es).length then (if frN n M es b = frN n M es a then 1 else 0) - M (frN n M es a) (frN n M es b) else qsum (es.map fun g => M (frN n M es a) g)
def comX (n : Nat) (M : Nat → Nat → Rat) (es : List Nat) (b : Nat) : Rat := El.gj (comA n M es) (free n M es).length b (free n M es).length
/-- the chances of coming -/
def com (n : Nat) (M : Nat → Nat → Rat) (es : List Nat) (i : Nat) : Rat := if es.contains i then 1 else El.sm (free n M es).length fun b => if frN n M es b = i then comX n M es b else 0
theorem com_end {i : Nat} (h : i ∈ es) : com n M es i = 1 := by
  unfold com
  rw [if_pos (by rw [List.contains_iff_mem]; exact h)]
theorem com_off {i : Nat} (h : i ∉ es) : com n M es i = El.sm (free n M es).length fun b => if frN n M es b = i then comX n M es b else 0 := by
  unfold com
  rw [if_neg (by rw [List.contains_iff_mem]; exact h)]
theorem com_fr {b : Nat} (hb : b < (free n M es).length) : com n M es (frN n M es b) = comX n M es b := by
  rw [com_off (frN_mem hb).2.2, El.sm_one hb fun i hi h => by rw [if_neg fun z => h (frN_inj hi hb z)], if_pos rfl]
theorem com_out {i : Nat} (h : rc n M es i = false) : com n M es i = 0 := by
  have he : i ∉ es := fun z => by rw [rc_end z] at h; cases h
  rw [com_off he]
  refine El.sm_zero fun b hb => ?_
  rw [if_neg]
  rintro rfl
  rw [(frN_mem hb).2.1] at h
  cases h
/-- rows of chances -/
structure Sto1 (n : Nat) (M : Nat → Nat → Rat) : Prop where
  nn : ∀ i l, i < n → l < n → 0 ≤ M i l
  one : ∀ i, i < n → El.sm n (M i) = 1
structure EndsOk (n : Nat) (es : List Nat) : Prop where
  eq : es = (List.range n).filter fun i => es.contains i
  ne : es ≠ []
theorem EndsOk.lt (h : EndsOk n es) {i : Nat} (hi : i ∈ es) : i < n := by
  rw [h.eq] at hi
  exact List.mem_range.mp (List.mem_filter.mp hi).1
theorem qsum_filter {f : Nat → Rat} {p : Nat → Bool} : ∀ l : List Nat, qsum ((l.filter p).map f) = qsum (l.map fun x => if p x = true then f x else 0)
  | [] => rfl
  | x :: l => by
    rw [List.map_cons, qsum_cons, List.filter_cons]
    by_cases e : p x = true
    · rw [if_pos e, if_pos e, List.map_cons, qsum_cons, qsum_filter l]
    · rw [if_neg e, if_neg e, qsum_filter l]; grind
theorem ends_sum (h : EndsOk n es) {f : Nat → Rat} : qsum (es.map f) = El.sm n fun l => if es.contains l = true then f l else 0 := by
  have e : qsum (es.map f) = qsum (((List.range n).filter fun i => es.contains i).map f) := by rw [← h.eq]
  rw [e, qsum_filter, qsum_range]
/-- a greatest number that is above 0, and below the mean behind: where it stands is closed -/
theorem max_set {d : Nat → Rat} (st : Sto1 n M) (h : ∀ i, i < n → 0 < d i → d i ≤ El.sm n (fun l => M i l * d l)) (h0 : ∃ i, i < n ∧ 0 < d i) :
    ∃ m, 0 < m ∧ (∃ i, i < n ∧ d i = m) ∧ (∀ i, i < n → d i ≤ m) ∧ ∀ i, i < n → d i = m → d i = El.sm n (fun l => M i l * d l) ∧ ∀ l, l < n → 0 < M i l → d l = m := by
  obtain ⟨i0, hi0, p0⟩ := h0
  obtain ⟨k, hk, mx⟩ := min_idx (f := fun i => - d i) n (by omega)
  have mx' : ∀ i, i < n → d i ≤ d k := fun i hi => by have := mx i hi; grind
  have mp : 0 < d k := by have := mx' i0 hi0; grind
  refine ⟨d k, mp, ⟨k, hk, rfl⟩, mx', fun i hi e => ?_⟩
  have a := h i hi (by rw [e]; exact mp)
  have s : El.sm n (fun l => M i l * (d k - d l)) = d k - El.sm n (fun l => M i l * d l) := by
    have : El.sm n (fun l => M i l * (d k - d l)) = El.sm n (fun l => M i l * d k - M i l * d l) := El.sm_congr fun l _ => by grind
    rw [this, El.sm_sub, El.sm_mulr, st.one i hi, Rat.one_mul]
  have nn : ∀ l, l < n → 0 ≤ M i l * (d k - d l) := fun l hl => Rat.mul_nonneg (st.nn i l hi hl) (by have := mx' l hl; grind)
  have z : El.sm n (fun l => M i l * (d k - d l)) = 0 := by
    have := El.sm_nonneg nn
    grind
  refine ⟨by grind, fun l hl hM => ?_⟩
  have z1 : M i l * (d k - d l) = 0 := by
    have a1 : El.sm n (fun j => if j = l then M i l * (d k - d l) else 0) ≤ El.sm n (fun l => M i l * (d k - d l)) := El.sm_le fun j hj => by
      by_cases e : j = l
      · subst e; rw [if_pos rfl]; exact Rat.le_refl
      · rw [if_neg e]; exact nn j hj
    rw [El.sm_one hl fun j _ hj => by rw [if_neg hj], if_pos rfl, z] at a1
    have := nn l hl
    grind
  rcases Rat.mul_eq_zero.mp z1 with q | q
  · rw [q] at hM; exact absurd hM (by decide)
  · grind
/-- from a closed set without goals no goal is reached -/
theorem rc_closed {S : Nat → Prop} (h0 : ∀ i ∈ es, ¬ S i) (h1 : ∀ i l, i < n → l < n → S i → 0 < M i l → S l) {i : Nat} (hi : i < n) (hS : S i) : rc n M es i = false := by
  cases e : rc n M es i with
  | false => rfl
  | true => exact absurd hS (rc_ind (S := fun i => ¬ S i) h0 (fun i l hi hl a b c => a (h1 i l hi hl c b)) hi e)
theorem com_ns (st : Sto1 n M) : ∀ k, k ≤ (free n M es).length → El.NS (comA n M es) k := fun k hk x hx => by
  let y : Nat → Rat := fun l => El.sm k fun b => if frN n M es b = l then x b else 0
  have yF : ∀ a, a < k → y (frN n M es a) = x a := fun a ha => by
    show El.sm k _ = _
    rw [El.sm_one ha fun i hi h => by rw [if_neg fun z => h (frN_inj (by omega) (by omega) z)], if_pos rfl]
  have yS : ∀ i, y i ≠ 0 → ∃ a, a < k ∧ frN n M es a = i := fun i h => Classical.byContradiction fun z => h (El.sm_zero fun b hb => by rw [if_neg fun e => z ⟨b, hb, e⟩])
  have eq : ∀ a, a < k → x a = El.sm n fun l => M (frN n M es a) l * y l := fun a ha => by
    have e := hx a ha
    rw [El.sm_congr (g := fun l => (if l = a then x a else 0) - M (frN n M es a) (frN n M es l) * x l) fun l hl => by
      unfold comA
      rw [if_pos (by omega)]
      by_cases q : l = a
      · subst q; rw [if_pos rfl, if_pos rfl]; grind
      · rw [if_neg q, if_neg fun z => q (frN_inj (by omega) (by omega) z)]; grind, El.sm_sub, El.sm_one ha fun i _ h => by rw [if_neg h], if_pos rfl] at e
    have e2 : El.sm n (fun l => M (frN n M es a) l * y l) = El.sm k fun b => M (frN n M es a) (frN n M es b) * x b := by
      rw [El.sm_congr (g := fun l => El.sm k fun b => M (frN n M es a) l * (if frN n M es b = l then x b else 0)) fun l _ => (El.sm_mul).symm, El.sm_swap]
      refine El.sm_congr fun b hb => ?_
      rw [El.sm_one (k := frN n M es b) (frN_mem (by omega)).1 fun i _ h => by rw [if_neg fun z => h z.symm, Rat.mul_zero], if_pos rfl]
    rw [e2]; grind
  refine Classical.byContradiction fun z => ?_
  have : ∃ i, i < k ∧ x i ≠ 0 := Classical.byContradiction fun w => z fun i hi => Classical.byContradiction fun q => w ⟨i, hi, q⟩
  obtain ⟨i, hi, hxi⟩ := this
  obtain ⟨m, mp, ⟨j, hj, ej⟩, _, cl⟩ := max_set (d := fun l => El.ab (y l)) st (fun i hi p => by
    have p' : y i ≠ 0 := fun q => by
      have : El.ab (y i) = 0 := by rw [q]; rfl
      rw [this] at p
      exact absurd p (by decide)
    obtain ⟨a, ha, e⟩ := yS i p'
    have e1 := eq a ha
    rw [← yF a ha, e] at e1
    show El.ab (y i) ≤ _
    rw [e1]
    refine Rat.le_trans El.ab_sm ?_
    refine El.sm_le fun l hl => ?_
    rw [El.ab_mul_nonneg (st.nn i l hi hl)]
    exact Rat.le_refl) ⟨frN n M es i, (frN_mem (by omega)).1, by
      show 0 < El.ab (y (frN n M es i))
      rw [yF i hi]
      have := El.ab_nonneg (x i)
      have : El.ab (x i) ≠ 0 := fun q => hxi (El.ab_zero q)
      grind⟩
  have nz : ∀ i, El.ab (y i) = m → ∃ a, a < k ∧ frN n M es a = i := fun i e => yS i fun q => by
    have : El.ab (y i) = 0 := by rw [q]; rfl
    rw [this] at e
    rw [← e] at mp
    exact absurd mp (by decide)
  have c := rc_closed (M := M) (es := es) (n := n) (S := fun i => El.ab (y i) = m) (fun i hi e => by
    obtain ⟨a, ha, e2⟩ := nz i e
    exact (frN_mem (show a < (free n M es).length by omega)).2.2 (by rw [e2]; exact hi)) (fun i l hi hl e p => (cl i hi e).2 l hl p) hj ej
  obtain ⟨a, ha, e2⟩ := nz j ej
  have := (frN_mem (show a < (free n M es).length by omega)).2.1
  rw [e2, c] at this
  cases this
/-- the equation of the chances of coming -/
theorem com_eq (st : Sto1 n M) (eo : EndsOk n es) {i : Nat} (hi : i < n) (he : i ∉ es) : com n M es i = El.sm n fun l => M i l * com n M es l := by
  cases hr : rc n M es i with
  | false =>
    rw [com_out hr]
    refine (El.sm_zero fun l hl => ?_).symm
    by_cases p : 0 < M i l
    · have : rc n M es l = false := by
        cases e : rc n M es l with
        | false => rfl
        | true => rw [rc_step hi hl e p] at hr; cases hr
      rw [com_out this, Rat.mul_zero]
    · have := st.nn i l hi hl
      rw [show M i l = 0 by grind, Rat.zero_mul]
  | true =>
    obtain ⟨a, ha, rfl⟩ := frN_of hi hr he
    have e := El.gj_sol (com_ns (es := es) st) (j := (free n M es).length) ha
    rw [El.sm_congr (g := fun l => (if l = a then comX n M es a else 0) - M (frN n M es a) (frN n M es l) * comX n M es l) fun l hl => by
      show _ * comX n M es l = _
      unfold comA
      rw [if_pos hl]
      by_cases q : l = a
      · subst q; rw [if_pos rfl, if_pos rfl]; grind
      · rw [if_neg q, if_neg fun z => q (frN_inj hl ha z)]; grind, El.sm_sub, El.sm_one ha fun i _ h => by rw [if_neg h], if_pos rfl] at e
    have e1 : comA n M es a (free n M es).length = El.sm n fun l => if es.contains l = true then M (frN n M es a) l else 0 := by
      unfold comA
      rw [if_neg (by omega), ends_sum eo]
    have e2 : El.sm n (fun l => M (frN n M es a) l * com n M es l) = El.sm n (fun l => (if es.contains l = true then M (frN n M es a) l else 0) + El.sm (free n M es).length fun b => M (frN n M es a) l * (if frN n M es b = l then comX n M es b else 0)) := El.sm_congr fun l hl => by
      rw [El.sm_mul]
      by_cases q : es.contains l = true
      · have q' : l ∈ es := by rw [← List.contains_iff_mem]; exact q
        rw [if_pos q, com_end q', El.sm_zero fun b hb => by rw [if_neg]; rintro rfl; exact (frN_mem hb).2.2 q']
        grind
      · have q' : l ∉ es := by rw [← List.contains_iff_mem]; exact q
        rw [if_neg q, com_off q']
        grind
    rw [com_fr ha, e2, El.sm_add, El.sm_swap, ← e1]
    rw [El.sm_congr (f := fun j => El.sm n fun i => M (frN n M es a) i * (if frN n M es j = i then comX n M es j else 0)) (g := fun b => M (frN n M es a) (frN n M es b) * comX n M es b) fun b hb => by
      rw [El.sm_one (k := frN n M es b) (frN_mem hb).1 fun i _ h => by rw [if_neg fun z => h z.symm, Rat.mul_zero], if_pos rfl]]
    grind
theorem com_nonneg (st : Sto1 n M) (eo : EndsOk n es) {i : Nat} (hi : i < n) : 0 ≤ com n M es i := by
  refine Classical.byContradiction fun z => ?_
  obtain ⟨m, mp, ⟨j, hj, ej⟩, _, cl⟩ := max_set (d := fun l => - com n M es l) st (fun i hi p => by
    have he : i ∉ es := fun q => by rw [com_end q] at p; exact absurd p (by decide)
    show - com n M es i ≤ _
    rw [com_eq st eo hi he]
    have : El.sm n (fun l => M i l * - com n M es l) = - El.sm n (fun l => M i l * com n M es l) := by
      rw [show (fun l => M i l * - com n M es l) = fun l => (-1) * (M i l * com n M es l) from funext fun l => by grind, El.sm_mul]
      grind
    rw [this]
    exact Rat.le_refl) ⟨i, hi, by grind⟩
  have c := rc_closed (M := M) (es := es) (n := n) (S := fun i => - com n M es i = m) (fun i hi e => by
    rw [com_end hi] at e
    rw [← e] at mp
    exact absurd mp (by decide)) (fun i l hi hl e p => (cl i hi e).2 l hl p) hj ej
  rw [com_out c] at ej
  rw [← ej] at mp
  exact absurd mp (by decide)
theorem com_le_one (st : Sto1 n M) (eo : EndsOk n es) {i : Nat} (hi : i < n) : com n M es i ≤ 1 := by
  refine Classical.byContradiction fun z => ?_
  obtain ⟨m, mp, ⟨j, hj, ej⟩, _, cl⟩ := max_set (d := fun l => com n M es l - 1) st (fun i hi p => by
    have he : i ∉ es := fun q => by rw [com_end q] at p; grind
    show com n M es i - 1 ≤ _
    rw [com_eq st eo hi he]
    have : El.sm n (fun l => M i l * (com n M es l - 1)) = El.sm n (fun l => M i l * com n M es l) - 1 := by
      rw [show (fun l => M i l * (com n M es l - 1)) = fun l => M i l * com n M es l - M i l from funext fun l => by grind, El.sm_sub, st.one i hi]
    rw [this]
    exact Rat.le_refl) ⟨i, hi, by grind⟩
  have c := rc_closed (M := M) (es := es) (n := n) (S := fun i => com n M es i - 1 = m) (fun i hi e => by
    rw [com_end hi] at e
    grind) (fun i l hi hl e p => (cl i hi e).2 l hl p) hj ej
  rw [com_out c] at ej
  grind
/-- numbers that no deed betters are not below the chances of coming -/
theorem com_le (st : Sto1 n M) (eo : EndsOk n es) {v : Nat → Rat} (v0 : ∀ i, i < n → 0 ≤ v i) (v1 : ∀ i ∈ es, 1 ≤ v i) (h : ∀ i, i < n → i ∉ es → El.sm n (fun l => M i l * v l) ≤ v i) {i : Nat} (hi : i < n) : com n M es i ≤ v i := by
  refine Classical.byContradiction fun z => ?_
  obtain ⟨m, mp, ⟨j, hj, ej⟩, _, cl⟩ := max_set (d := fun l => com n M es l - v l) st (fun i hi p => by
    have he : i ∉ es := fun q => by have := v1 i q; rw [com_end q] at p; grind
    show com n M es i - v i ≤ _
    rw [com_eq st eo hi he]
    have : El.sm n (fun l => M i l * (com n M es l - v l)) = El.sm n (fun l => M i l * com n M es l) - El.sm n (fun l => M i l * v l) := by
      rw [show (fun l => M i l * (com n M es l - v l)) = fun l => M i l * com n M es l - M i l * v l from funext fun l => by grind, El.sm_sub]
    rw [this]
    have := h i hi he
    grind) ⟨i, hi, by grind⟩
  have c := rc_closed (M := M) (es := es) (n := n) (S := fun i => com n M es i - v i = m) (fun i hi e => by
    have := v1 i hi
    rw [com_end hi] at e
    grind) (fun i l hi hl e p => (cl i hi e).2 l hl p) hj ej
  have := v0 j hj
  rw [com_out c] at ej
  grind
/-- numbers that are not above what is behind, and nothing where one may stay, are not above the chances of coming -/
theorem le_com (st : Sto1 n M) (eo : EndsOk n es) {v : Nat → Rat} (v1 : ∀ i ∈ es, v i ≤ 1) (h : ∀ i, i < n → i ∉ es → 0 < v i → v i ≤ El.sm n (fun l => M i l * v l)) (lot : ∀ i, i < n → rc n M es i = false → v i ≤ 0) {i : Nat} (hi : i < n) : v i ≤ com n M es i := by
  refine Classical.byContradiction fun z => ?_
  obtain ⟨m, mp, ⟨j, hj, ej⟩, _, cl⟩ := max_set (d := fun l => v l - com n M es l) st (fun i hi p => by
    have he : i ∉ es := fun q => by have := v1 i q; rw [com_end q] at p; grind
    show v i - com n M es i ≤ _
    rw [com_eq st eo hi he]
    have c0 := com_nonneg st eo hi
    rw [com_eq st eo hi he] at c0
    have : El.sm n (fun l => M i l * (v l - com n M es l)) = El.sm n (fun l => M i l * v l) - El.sm n (fun l => M i l * com n M es l) := by
      rw [show (fun l => M i l * (v l - com n M es l)) = fun l => M i l * v l - M i l * com n M es l from funext fun l => by grind, El.sm_sub]
    rw [this]
    have p' : 0 < v i := by have := com_nonneg st eo hi; grind
    have := h i hi he p'
    grind) ⟨i, hi, by grind⟩
  have c := rc_closed (M := M) (es := es) (n := n) (S := fun i => v i - com n M es i = m) (fun i hi e => by
    have := v1 i hi
    rw [com_end hi] at e
    grind) (fun i l hi hl e p => (cl i hi e).2 l hl p) hj ej
  have := lot j hj c
  rw [com_out c] at ej
  grind
end
end Dh
namespace Dh
open PySem PySem.Spec L2 PySem.W
theorem any_eqv {i : Nat} {l : List Nat} : ((l.map iN).any fun z => PyData.eqv z (.int (i : Nat))) = l.contains i := by
  rw [Bool.eq_iff_iff, List.any_eq_true, List.contains_iff_mem]
  constructor
  · rintro ⟨z, hz, e⟩
    obtain ⟨k, hk, rfl⟩ := List.mem_map.mp hz
    rw [show PyData.eqv (iN k) (.int (i : Nat)) = decide ((k : Int) = (i : Int)) from eqv_int, decide_eq_true_iff] at e
    rw [← show k = i by omega]; exact hk
  · intro h
    refine ⟨iN i, List.mem_map_of_mem h, ?_⟩
    rw [show PyData.eqv (iN i) (.int (i : Nat)) = decide ((i : Int) = (i : Int)) from eqv_int]
    simp
theorem Pn.numsL {c : List Nat} {n : Nat} (h : ∀ k ∈ c, k < 256) (hn : c.length ≤ n) : Pn 8 1 (n * 9) (.list (c.map iN)) :=
  (Pn.lst (k := 0) (w := 8) (n := n) (fun x hx => by
    obtain ⟨k, hk, rfl⟩ := List.mem_map.mp hx
    refine Pn.int (by decide) (by decide) ?_
    rw [Int.natAbs_natCast]
    exact h k hk) (by rw [List.length_map]; exact hn)).mono
/-- short rows of small numbers -/
def Sm (l : List Nat) : Prop := (∀ k ∈ l, k < 256) ∧ l.length ≤ 100
theorem Sm.tup {l : List Nat} (h : Sm l) : eqOk (.tuple (l.map iN)) = true := (Pn.nums h.1 h.2).eqOk (by decide)
theorem Sm.lst {l : List Nat} (h : Sm l) : eqOk (.list (l.map iN)) = true := (Pn.numsL h.1 h.2).eqOk (by decide)
theorem Sm.of {n : Nat} {l : List Nat} (hn : n ≤ 100) (h : ∀ k ∈ l, k < n) (hl : l.length ≤ n) : Sm l := ⟨fun k hk => by have := h k hk; omega, by omega⟩
theorem fIn_b {i : Nat} {l : List Nat} {neg : Bool} (h : Sm l) : fIn neg (.d (.int (i : Int))) (.b (l.map iN)) = some (.d (.bool (if neg then !l.contains i else l.contains i))) := by
  show (if eqOk (.int (i : Int)) = true ∧ eqOk (.list (l.map iN)) = true then some (R.d (.bool (if neg then !((l.map iN).any fun z => PyData.eqv z (.int (i : Int))) else (l.map iN).any fun z => PyData.eqv z (.int (i : Int))))) else none) = _
  rw [if_pos ⟨eqOk_int, h.lst⟩, any_eqv]
theorem fIn_t {i : Nat} {l : List Nat} {neg : Bool} (h : Sm l) : fIn neg (.d (.int (i : Int))) (.d (.tuple (l.map iN))) = some (.d (.bool (if neg then !l.contains i else l.contains i))) := by
  show (if eqOk (.int (i : Int)) = true ∧ eqOk (.tuple (l.map iN)) = true then some (R.d (.bool (if neg then !((l.map iN).any fun z => PyData.eqv z (.int (i : Int))) else (l.map iN).any fun z => PyData.eqv z (.int (i : Int))))) else none) = _
  rw [if_pos ⟨eqOk_int, h.tup⟩, any_eqv]
theorem fIn_l {i : Nat} {l : List Nat} {neg : Bool} (h : Sm l) : fIn neg (.d (.int (i : Int))) (.d (.list (l.map iN))) = some (.d (.bool (if neg then !l.contains i else l.contains i))) := by
  show (if eqOk (.int (i : Int)) = true ∧ eqOk (.list (l.map iN)) = true then some (R.d (.bool (if neg then !((l.map iN).any fun z => PyData.eqv z (.int (i : Int))) else (l.map iN).any fun z => PyData.eqv z (.int (i : Int))))) else none) = _
  rw [if_pos ⟨eqOk_int, h.lst⟩, any_eqv]
theorem sortI_nat {l F : List Nat} (hp : F.Perm l) (hs : F.Pairwise (· ≤ ·)) : PySem.W.sortI (l.map fun n : Nat => (n : Int)) = F.map fun n : Nat => (n : Int) :=
  (PySem.W.eq_sortI (hp.map _) (by
    rw [List.pairwise_map]
    exact hs.imp fun h => by omega)).symm
theorem fSorted_b {l F : List Nat} (hp : F.Perm l) (hs : F.Pairwise (· ≤ ·)) : fSorted [.b (l.map iN)] = some (.f (F.map iN)) := by
  show (match rdL (.b (l.map iN)) with | some xs => (intsOf xs).map fun ns => R.f ((PySem.W.sortI ns).map PyData.int) | none => none) = _
  rw [show rdL (.b (l.map iN)) = some (l.map iN) from rfl]
  dsimp only
  rw [ints_iN, Option.map_some, sortI_nat hp hs, List.map_map]
  rfl
theorem filterMap_if {α β : Type} {p : α → Bool} {f : α → β} : ∀ l : List α, (l.filterMap fun x => if p x = true then some (f x) else none) = (l.filter p).map f
  | [] => rfl
  | x :: l => by
    rw [List.filterMap_cons, List.filter_cons]
    by_cases e : p x = true
    · rw [if_pos e, if_pos e, List.map_cons, filterMap_if l]
    · rw [if_neg e, if_neg e, filterMap_if l]
/-- the chances of a choice -/
def chM (h : RHouse) (c : List Nat) (i l : Nat) : Rat := chF (dd h c i).ch l
section
variable {N D P g : Nat} {h : RHouse} {c es : List Nat}
theorem chM_sto (ok : HouseOk N D P h g) (hc : ChoiceOk h c) : Sto1 h.stands.length (chM h c) :=
  ⟨fun i l hi _ => ((dd_ok ok hc hi).ch.chF_lt l).2, fun i hi => (dd_ok ok hc hi).ch.sum1⟩
/-- what holds while the program looks from where goals are reached -/
def RInv (n : Nat) (M : Nat → Nat → Rat) (es F : List Nat) (gr : Bool) (m : Nat) : Prop := F.Nodup ∧ (∀ i ∈ es, i ∈ F) ∧ (∀ i ∈ F, i < n ∧ rc n M es i = true) ∧
    (gr = false → ∀ i l, i < n → l ∈ F → 0 < M i l → i ∈ F) ∧ m = (n - F.length) + (if gr = true then 1 else 0)
/-- numbers of the eliminations -/
def ComB (n : Nat) (M : Nat → Nat → Rat) (es : List Nat) (K : Nat) : Prop := ∀ t i j, t ≤ (free n M es).length → i < (free n M es).length → QLt K (El.gj (comA n M es) t i j)
theorem comB_of {n b : Nat} {M : Nat → Nat → Rat} (st : Sto1 n M) (hn : n ≤ 9) (eo : EndsOk n es) (hr : ∀ i, i < n → ∃ D : Nat, 0 < D ∧ D ≤ 2 ^ b ∧ ∀ l, l < n → CD D (2 ^ b) (M i l)) : ComB n M es (10 * b + 90) := fun t i j ht hi => by
  have hk := free_len (n := n) (M := M) (es := es)
  have el : es.length ≤ 9 := by
    rw [eo.eq]
    exact Nat.le_trans (List.length_filter_le _ _) (by rw [List.length_range]; exact hn)
  have rows : El.Rows (comA n M es) (free n M es).length j (b + 4) := fun a ha => by
    obtain ⟨hF, _, _⟩ := frN_mem ha
    obtain ⟨D, d0, d1, d2⟩ := hr _ hF
    have e2 : (2 : Nat) ^ (b + 4) = 2 ^ b * 16 := by rw [Nat.pow_add]
    refine ⟨D, d0, by omega, fun l _ => ?_⟩
    unfold comA
    by_cases q : l < (free n M es).length
    · rw [if_pos q]
      exact (CD_if.sub (d2 _ (frN_mem q).1)).mono (by omega)
    · rw [if_neg q]
      refine (CD_sum_le (M := 2 ^ b) (n := 9) (fun q hq => ?_) (by rw [List.length_map]; exact el)).mono (by omega)
      obtain ⟨g, hg, rfl⟩ := List.mem_map.mp hq
      exact d2 _ (eo.lt hg)
  refine (El.gj_cd (b := b + 4) (c := 4) ht (com_ns st) rows (by omega) hi).mono ?_
  have := Nat.mul_le_mul_left (4 + 1 + (b + 4)) (show t ≤ 9 by omega)
  omega
theorem chM_row (ok : HouseOk N D P h g) (hc : ChoiceOk h c) {i : Nat} (hi : i < h.stands.length) : ∃ D : Nat, 0 < D ∧ D ≤ 2 ^ 9 ∧ ∀ l, l < h.stands.length → CD D (2 ^ 9) (chM h c i l) := by
  obtain ⟨S, s0, s1, s2⟩ := (dd_ok ok hc hi).ch.cd
  refine ⟨S, s0, Nat.le_of_lt s1, fun l _ => ?_⟩
  unfold chM
  rcases chF_mem (cs := (dd h c i).ch) (i := l) with e | ⟨x, hx, _, e⟩
  · rw [e]; exact CD_0
  · rw [← e]; exact (s2 x hx).mono (Nat.le_of_lt s1)
theorem chM_com (ok : HouseOk N D P h g) (hN : N ≤ 9) (hc : ChoiceOk h c) (eo : EndsOk h.stands.length es) : ComB h.stands.length (chM h c) es 180 := comB_of (b := 9) (chM_sto ok hc) (by have := ok.nN; omega) eo fun i hi => chM_row ok hc hi
theorem com_lt {n K : Nat} {M : Nat → Nat → Rat} (hb : ComB n M es K) (hK : 0 < K) (i : Nat) : QLt K (com n M es i) := by
  by_cases he : i ∈ es
  · rw [com_end he]; exact QLt_1
  · by_cases q : ∃ b, b < (free n M es).length ∧ frN n M es b = i
    · obtain ⟨b, hb', rfl⟩ := q
      rw [com_fr hb']
      exact hb _ _ _ (Nat.le_refl _) hb'
    · rw [com_off he, El.sm_zero fun b hb' => by rw [if_neg fun z => q ⟨b, hb', z⟩]]
      exact QLt_0
theorem ends_small (eo : EndsOk h.stands.length es) (hn : h.stands.length ≤ 100) : Sm es := Sm.of hn (fun k hk => eo.lt hk) (by
  rw [eo.eq]
  exact Nat.le_trans (List.length_filter_le _ _) (by rw [List.length_range]; exact Nat.le_refl _))
theorem nodup_len {n : Nat} {l : List Nat} (h : l.Nodup) (hl : ∀ k ∈ l, k < n) : l.length ≤ n := by
  have := List.Nodup.length_le_of_subset h (l₂ := List.range n) fun k hk => List.mem_range.mpr (hl k hk)
  rwa [List.length_range] at this
theorem chF_pos {cs : List (Nat × Rat)} {n : Nat} (hc : ChOk n cs) {l : Nat} : 0 < chF cs l ↔ ∃ x ∈ cs, x.1 = l := by
  constructor
  · intro p
    rcases chF_mem (cs := cs) (i := l) with e | ⟨x, hx, e, _⟩
    · rw [e] at p; exact absurd p (by decide)
    · exact ⟨x, hx, e⟩
  · rintro ⟨x, hx, rfl⟩
    have : ∀ {cs : List (Nat × Rat)}, (∀ c ∈ cs, 0 < c.2) → x ∈ cs → 0 < chF cs x.1 := by
      intro cs
      induction cs with
      | nil => intro _ h; cases h
      | cons y cs ih =>
        intro hp hx
        rw [chF_cons]
        by_cases e : y.1 = x.1
        · rw [if_pos e]; exact hp y List.mem_cons_self
        · rw [if_neg e]
          rcases List.mem_cons.mp hx with rfl | hx
          · exact absurd rfl e
          · exact ih (fun c hc => hp c (List.mem_cons_of_mem _ hc)) hx
    exact this (fun c h => (hc.each c h).2.1) hx
end
end Dh
namespace WW
open PySem PySem.Spec L2 PySem.W Dh
section
variable {N D P g : Nat} {h : RHouse} {c es : List Nat} {s : Sto}
theorem e_led_to (ok : HouseOk N D P h g) (hN : N ≤ 9) {i k : Nat} (hi : i < h.stands.length) (hk : k < (h.stands.getD i []).length) :
    f_led_to [.d (pHouse h), .d (.int (i : Int)), .d (.int (k : Int))] s = some (.f (((h.stands.getD i []).getD k d0).ch.map fun c => iN c.1), s) := by
  have hn := ok.nN
  have hd := ((ok.each _ (stand_mem hi)).2.2 _ (List.mem_of_getElem? (getD_at (d := d0) hk))).ch
  have e1 := atI_stand hi
  have e2 := atI_deed hk
  refine WF.eq (WF.body rfl ?_)
  simp [m_led_to, List.replicate_succ, pHouse, e1, pStand, e2, pDeed, -List.getD_eq_getElem?_getD]
  refine WLc_map pCh (fun c => iN c.1) _ (fun x hx => ?_) ?_
  · simp [pCh, iN]
  refine ⟨szle (by rw [List.length_map]; have := hd.len; omega), ?_⟩
  simp [-List.getD_eq_getElem?_getD]
theorem e_reaching (ok : HouseOk N D P h g) (hN : N ≤ 9) (hc : ChoiceOk h c) (eo : EndsOk h.stands.length es) :
    f_reaching [.d (pHouse h), .d (.tuple (es.map iN)), .d (.tuple (c.map iN))] s = some (.f (((List.range h.stands.length).filter (rc h.stands.length (chM h c) es)).map iN), s) := by
  have hn := ok.nN
  have esl : es.length ≤ h.stands.length := by
    rw [eo.eq]
    exact Nat.le_trans (List.length_filter_le _ _) (by rw [List.length_range]; exact Nat.le_refl _)
  have esn : es.Nodup := by rw [eo.eq]; exact List.Pairwise.filter _ List.nodup_range
  refine WF.eq (WF.body rfl ?_)
  simp [m_reaching, List.replicate_succ, fLstOf]
  refine WWh_inv (fun m ρ s' => s' = s ∧ ∃ (F : List Nat) (gr : Bool) (x5 x6 x7 x8 : Option Cl), ρ = [some (.d (pHouse h)), some (.d (.tuple (es.map iN))), some (.d (.tuple (c.map iN))), some (.o (F.map iN)), some (.d (.bool gr)), x5, x6, x7, x8] ∧ RInv h.stands.length (chM h c) es F gr m) (h.stands.length - es.length + 1) ⟨rfl, es, true, none, none, none, none, rfl, esn, fun i hi => hi, fun i hi => ⟨eo.lt hi, rc_end hi⟩, (fun z => by cases z), rfl⟩ ?_
  rintro m ρ s' ⟨rfl, F, gr, x5, x6, x7, x8, rfl, nd, f1, f2, f3, rfl⟩
  have fl : F.length ≤ h.stands.length := nodup_len nd fun k hk => (f2 k hk).1
  have fs : Sm F := Sm.of (by omega) (fun k hk => (f2 k hk).1) fl
  cases gr with
  | false =>
    simp
    have hp : ((List.range h.stands.length).filter (rc h.stands.length (chM h c) es)).Perm F := by
      rw [List.perm_ext_iff_of_nodup (List.Pairwise.filter _ List.nodup_range) nd]
      intro i
      rw [List.mem_filter, List.mem_range]
      constructor
      · rintro ⟨hi, hr⟩
        exact rc_ind (S := fun i => i ∈ F) f1 (fun i l hi hl a b => f3 rfl i l hi a b) hi hr
      · exact f2 i
    rw [fSorted_b hp ((List.Pairwise.filter _ List.pairwise_lt_range).imp fun h => Nat.le_of_lt h)]
    simp
  | true =>
    simp
    have en : numbered (c.map iN) = (List.range h.stands.length).map fun i => PyData.tuple [.int (i : Nat), iN (c.getD i 0)] := by rw [map_range (d := 0) c iN, hc.1, numbered_range]
    rw [en]
    refine WFor_inv (fun i : Nat => PyData.tuple [.int (i : Nat), iN (c.getD i 0)]) (List.range h.stands.length) (fun t ρ s2 => s2 = s' ∧ ∃ (x6 x7 x8 : Option Cl), ρ = [some (.d (pHouse h)), some (.d (.tuple (es.map iN))), some (.d (.tuple (c.map iN))), some (.o (F.map iN)), some (.d (.bool true)), some (.o (((List.range t).filter fun i => !F.contains i && (dd h c i).ch.any fun x => F.contains x.1).map iN)), x6, x7, x8]) ⟨rfl, x6, x7, x8, rfl⟩ ?_ ?_
    · rintro t x ρ s2 hx ⟨rfl, x6, x7, x8, rfl⟩
      obtain ⟨rfl, ht⟩ := range_at hx
      have hck := hc.lt ht
      have hl : ((List.range x).filter fun i => !F.contains i && (dd h c i).ch.any fun x => F.contains x.1).length ≤ 1000 := Nat.le_trans (List.length_filter_le _ _) (by rw [List.length_range]; omega)
      simp [fIn_b fs, iN, -List.getD_eq_getElem?_getD, -List.contains_eq_mem]
      rw [List.range_succ, List.filter_append, List.map_append]
      by_cases q : F.contains x = true
      · simp [q, -List.getD_eq_getElem?_getD, -List.contains_eq_mem]
      · rw [Bool.not_eq_true] at q
        simp [q, -List.getD_eq_getElem?_getD, -List.contains_eq_mem]
        refine WF.of (e_led_to ok hN ht hck) ?_
        rw [← show dd h c x = (h.stands.getD x []).getD (c.getD x 0) d0 from rfl]
        simp [-List.getD_eq_getElem?_getD, -List.contains_eq_mem]
        refine WLc_map (fun z : Nat × Rat => iN z.1) (fun z => PyData.bool (F.contains z.1)) (dd h c x).ch (fun z hz => ?_) ?_
        · simp [fIn_b fs, iN, -List.contains_eq_mem]
        refine ⟨szle (by rw [List.length_map]; have := (dd_ok ok hc ht).ch.len; omega), ?_⟩
        simp [fAny_of, -List.contains_eq_mem]
        by_cases q2 : ((dd h c x).ch.any fun z => F.contains z.1) = true
        · simp only [q2]
          simp [szlt hl, List.filter_cons, q, q2, iN, -List.contains_eq_mem]
        · rw [Bool.not_eq_true] at q2
          simp only [q2]
          simp [List.filter_cons, q, q2, iN, -List.contains_eq_mem]
    · rintro ρ s2 ⟨rfl, x6, x7, x8, rfl⟩
      rw [List.length_range]
      have nm : ∀ i, i ∈ ((List.range h.stands.length).filter fun i => !F.contains i && (dd h c i).ch.any fun x => F.contains x.1) ↔ i < h.stands.length ∧ i ∉ F ∧ ∃ x ∈ (dd h c i).ch, x.1 ∈ F := fun i => by
        simp [List.mem_filter, and_assoc]
      have nn : ((List.range h.stands.length).filter fun i => !F.contains i && (dd h c i).ch.any fun x => F.contains x.1).Nodup := List.Pairwise.filter _ List.nodup_range
      generalize ((List.range h.stands.length).filter fun i => !F.contains i && (dd h c i).ch.any fun x => F.contains x.1) = W at *
      have wl : W.length ≤ h.stands.length := nodup_len nn fun k hk => ((nm k).mp hk).1
      have ws : Sm W := Sm.of (by omega) (fun k hk => ((nm k).mp hk).1) wl
      have pn := Pn.numsL ws.1 ws.2
      have nd2 : (F ++ W).Nodup := List.nodup_append.mpr ⟨nd, nn, fun a ha b hb e => by subst e; exact ((nm a).mp hb).2.1 ha⟩
      have f22 : ∀ i ∈ F ++ W, i < h.stands.length ∧ rc h.stands.length (chM h c) es i = true := fun i hi => by
        rcases List.mem_append.mp hi with hi | hi
        · exact f2 i hi
        · obtain ⟨a, _, x, hx, b⟩ := (nm i).mp hi
          exact ⟨a, rc_step a (f2 _ b).1 (f2 _ b).2 ((chF_pos (dd_ok ok hc a).ch).mpr ⟨x, hx, rfl⟩)⟩
      have fl2 : (F ++ W).length ≤ h.stands.length := nodup_len nd2 fun k hk => (f22 k hk).1
      rw [List.length_append] at fl2
      have ad : fAdd (.b (F.map iN)) (.b (W.map iN)) = some (.f ((F ++ W).map iN)) := by
        show (if (F.map iN).length + (W.map iN).length ≤ sizeLine then some (R.f (F.map iN ++ W.map iN)) else none) = _
        rw [if_pos (szle (by simp; omega)), List.map_append]
      simp [ad]
      rw [fEq_nil pn (by decide)]
      simp only [WO_some, boolK_b]
      have inv : RInv h.stands.length (chM h c) es (F ++ W) (!(W.map iN).isEmpty) ((h.stands.length - (F ++ W).length) + (if (!(W.map iN).isEmpty) = true then 1 else 0)) := by
        refine ⟨nd2, fun i hi => List.mem_append_left _ (f1 i hi), f22, fun z i l hi hl hM => ?_, rfl⟩
        cases W with
        | nil =>
          rw [List.append_nil] at hl ⊢
          refine Classical.byContradiction fun hn => ?_
          obtain ⟨x, hx, e⟩ := (chF_pos (dd_ok ok hc hi).ch).mp hM
          have := (nm i).mpr ⟨hi, hn, x, hx, by rw [e]; exact hl⟩
          cases this
        | cons w W => simp at z
      have lt : (h.stands.length - (F ++ W).length) + (if (!(W.map iN).isEmpty) = true then 1 else 0) < h.stands.length - F.length + 1 := by
        cases W with
        | nil => simp
        | cons w W =>
          simp at fl2 ⊢
          omega
      generalize (h.stands.length - (F ++ W).length) + (if (!(W.map iN).isEmpty) = true then 1 else 0) = m at *
      generalize (!(W.map iN).isEmpty) = gr at *
      simp
      refine ⟨m, lt, F ++ W, ?_⟩
      cases gr <;> simp [inv]
end
end WW
namespace Dh
open PySem PySem.Spec L2 PySem.W
/-- the numbers that are told by and by -/
def comP (n : Nat) (M : Nat → Nat → Rat) (es : List Nat) (t i : Nat) : Rat := if es.contains i then 1 else El.sm t fun b => if frN n M es b = i then comX n M es b else 0
section
variable {n : Nat} {M : Nat → Nat → Rat} {es : List Nat}
theorem comP_all {i : Nat} : comP n M es (free n M es).length i = com n M es i := rfl
theorem comP_set {t : Nat} (ht : t < (free n M es).length) : (rowL n (comP n M es t)).set (frN n M es t) (pQ (comX n M es t)) = rowL n (comP n M es (t + 1)) := by
  have hm := frN_mem ht
  unfold rowL
  apply List.ext_getElem?
  intro i
  rw [List.getElem?_set, List.length_map, List.length_range, List.getElem?_map, List.getElem?_map]
  by_cases hi : i < n
  · rw [List.getElem?_range hi]
    by_cases e : frN n M es t = i
    · rw [if_pos e, if_pos (by omega)]
      subst e
      show some (pQ _) = some (pQ _)
      congr 2
      unfold comP
      rw [if_neg (by rw [List.contains_iff_mem]; exact hm.2.2)]
      show _ = El.sm t _ + (if _ then _ else _)
      rw [if_pos rfl, El.sm_zero fun b hb => by rw [if_neg fun z => by have := frN_inj (by omega) ht z; omega]]
      grind
    · rw [if_neg e]
      show some (pQ _) = some (pQ _)
      congr 2
      unfold comP
      by_cases q : es.contains i = true
      · rw [if_pos q, if_pos q]
      · rw [if_neg q, if_neg q]
        show _ = El.sm t _ + (if _ then _ else _)
        rw [if_neg e]
        grind
  · rw [List.getElem?_eq_none (by simp; omega)]
    by_cases e : frN n M es t = i
    · exact absurd (by rw [← e]; exact hm.1) hi
    · rw [if_neg e]; rfl
end
end Dh
namespace WW
open PySem PySem.Spec L2 PySem.W Dh
section
variable {N D P g : Nat} {h : RHouse} {c es : List Nat} {s : Sto}
theorem e_coming_by (ok : HouseOk N D P h g) (hN : N ≤ 9) (hc : ChoiceOk h c) (eo : EndsOk h.stands.length es) :
    f_coming_by [.d (pHouse h), .d (.tuple (es.map iN)), .d (.tuple (c.map iN))] s = some (.d (.tuple (rowL h.stands.length (com h.stands.length (chM h c) es))), s) := by
  have hn := ok.nN
  have es9 : es.length ≤ 9 := by
    rw [eo.eq]
    exact Nat.le_trans (List.length_filter_le _ _) (by rw [List.length_range]; omega)
  have ess := ends_small eo (by omega)
  have bd := chM_com ok hN hc eo
  have st := chM_sto ok hc
  have ns := com_ns (es := es) st
  have fl := free_len (n := h.stands.length) (M := chM h c) (es := es)
  have fm : ∀ i ∈ free h.stands.length (chM h c) es, i < h.stands.length := fun i hi => (free_mem.mp hi).1
  have eF : free h.stands.length (chM h c) es = (List.range (free h.stands.length (chM h c) es).length).map (frN h.stands.length (chM h c) es) := by
    have := map_range (d := 0) (free h.stands.length (chM h c) es) (fun x => x)
    rw [List.map_id'] at this
    exact this
  have ew : wide (free h.stands.length (chM h c) es).length (fun a b => (if frN h.stands.length (chM h c) es b = frN h.stands.length (chM h c) es a then 1 else 0) - chM h c (frN h.stands.length (chM h c) es a) (frN h.stands.length (chM h c) es b)) (fun a _ => qsum (es.map fun g => chM h c (frN h.stands.length (chM h c) es a) g)) = comA h.stands.length (chM h c) es := by
    funext a b
    rfl
  refine WF.eq (WF.body rfl ?_)
  simp [m_coming_by, List.replicate_succ]
  refine WF.of (e_reaching ok hN hc eo) ?_
  simp
  refine WLc_opt iN (fun i => if (!es.contains i) = true then some (iN i) else none) _ (fun i hi => ?_) ?_
  · simp [iN, fIn_t ess, -List.contains_eq_mem]
    by_cases q : es.contains i = true
    · simp [q, -List.contains_eq_mem]
    · rw [Bool.not_eq_true] at q
      simp [q, iN, -List.contains_eq_mem]
  rw [filterMap_if, List.filter_filter]
  rw [show ((List.range h.stands.length).filter fun a => (!es.contains a) && rc h.stands.length (chM h c) es a) = free h.stands.length (chM h c) es from by
    unfold free
    congr 1
    funext a
    rw [Bool.and_comm]]
  have frb := fun b (hb : b < (free h.stands.length (chM h c) es).length) => frN_mem hb
  generalize hF : free h.stands.length (chM h c) es = F at *
  have hM : ∀ i l, i < h.stands.length → QLt 10 (chM h c i l) := fun i l hi => ((dd_ok ok hc hi).ch.chF_lt l).1
  refine ⟨szle (by simp; omega), ?_⟩
  simp [frzs, frz1]
  rw [eF, List.map_map]
  generalize hk : F.length = k at *
  refine WFor_inv (iN ∘ frN h.stands.length (chM h c) es) (List.range k) (fun t ρ s' => s' = s ∧ ∃ (x6 x7 x8 x9 x10 x11 x12 : Option Cl), ρ = [some (.d (pHouse h)), some (.d (.tuple (es.map iN))), some (.d (.tuple (c.map iN))), some (.d (.list ((List.range k).map (iN ∘ frN h.stands.length (chM h c) es)))),
      some (.o ((List.range t).map fun a => PyData.list (rowL k fun b => (if frN h.stands.length (chM h c) es b = frN h.stands.length (chM h c) es a then 1 else 0) - chM h c (frN h.stands.length (chM h c) es a) (frN h.stands.length (chM h c) es b)))),
      some (.o ((List.range t).map fun a => PyData.tuple (rowL 1 fun _ => qsum (es.map fun g => chM h c (frN h.stands.length (chM h c) es a) g)))), x6, x7, x8, x9, x10, x11, x12]) ⟨rfl, none, none, none, none, none, none, none, rfl⟩ ?_ ?_
  · rintro t x ρ s' hx ⟨rfl, x6, x7, x8, x9, x10, x11, x12, rfl⟩
    obtain ⟨rfl, ht⟩ := range_at hx
    obtain ⟨hi, _, _⟩ := frb x ht
    generalize hfx : frN h.stands.length (chM h c) es x = i at *
    have hck := hc.lt hi
    have hd := (dd_ok ok hc hi).ch
    have e1 := atI_stand hi
    have e2 := atI_deed hck
    have e3 : atI (c.map iN) (i : Int) = some (iN (c.getD i 0)) := atI_mapD 0 (by rw [hc.1]; exact hi)
    rw [← show dd h c i = (h.stands.getD i []).getD (c.getD i 0) d0 from rfl] at e2
    simp [pHouse, hfx, iN, e1, e3, pStand, e2, pDeed, -List.getD_eq_getElem?_getD]
    refine WDc_new pCh (fun c => Sum.inl (c.1 : Int)) (fun c => pQ c.2) (dd h c i).ch (szle (by have := hd.len; omega)) (hd.asc.imp fun hab z => by injection z; omega) (fun x hx => ?_) ?_
    · simp [pCh]
      rfl
    simp [frzs, frz1, -List.getD_eq_getElem?_getD]
    refine WLc_map (iN ∘ frN h.stands.length (chM h c) es) (fun b => pQ ((if frN h.stands.length (chM h c) es b = i then 1 else 0) - chM h c i (frN h.stands.length (chM h c) es b))) (List.range k) (fun b hb => ?_) ?_
    · rw [List.mem_range] at hb
      simp [iN, fEq_int, show k_ZERO = pQ 0 from rfl, show k_ONE = pQ 1 from rfl, fGet_ch, -List.getD_eq_getElem?_getD]
      by_cases q : frN h.stands.length (chM h c) es b = i
      · simp [q, fGet_ch, show k_ZERO = pQ 0 from rfl, show k_ONE = pQ 1 from rfl]
        exact WF.of (e_minus (p := 1) ((QLt_1 (k := 1)).bd) ((hM i i hi).bd)) (by simp [chM, q])
      · have q' : ¬ (frN h.stands.length (chM h c) es b : Int) = (i : Int) := by omega
        simp [q, q', fGet_ch, show k_ZERO = pQ 0 from rfl, show k_ONE = pQ 1 from rfl]
        exact WF.of (e_minus (p := 0) ((QLt_0 (k := 1)).bd) ((hM i _ hi).bd)) (by simp [chM, q])
    refine ⟨szle (by simp; omega), ?_⟩
    simp [frzs, frz1, szlt (show x ≤ 1000 by omega), -List.getD_eq_getElem?_getD]
    refine WLc_map iN (fun g => pQ (chM h c i g)) es (fun b hb => ?_) ?_
    · simp [iN, show k_ZERO = pQ 0 from rfl, fGet_ch, chM]
    refine ⟨szle (by rw [List.length_map]; omega), ?_⟩
    have et := e_total (x := .list (es.map fun g => pQ (chM h c i g))) (l := es.map fun g => chM h c i g) (k := 10) (s := s') (by simp) (fun q hq => by
      obtain ⟨g, hg, rfl⟩ := List.mem_map.mp hq
      exact hM i g hi) (by rw [List.length_map]; omega)
    simp
    refine WF.of et ?_
    simp [sz1]
    rw [List.range_succ, List.map_append, List.map_append]
    simp [hfx, rowL, szlt (show x ≤ 1000 by omega)]
  · rintro ρ s' ⟨rfl, x6, x7, x8, x9, x10, x11, x12, rfl⟩
    rw [List.length_range]
    simp [pHouse, range1_nat (n := h.stands.length) (by omega)]
    refine WLc_map (fun i : Nat => PyData.int i) (fun i => pQ (comP h.stands.length (chM h c) es 0 i)) (List.range h.stands.length) (fun i hi => ?_) ?_
    · simp [fIn_t ess, -List.contains_eq_mem]
      unfold comP
      by_cases q : es.contains i = true
      · simp [q, show k_ZERO = pQ 0 from rfl, show k_ONE = pQ 1 from rfl, -List.contains_eq_mem]
      · rw [Bool.not_eq_true] at q
        simp [q, show k_ZERO = pQ 0 from rfl, show k_ONE = pQ 1 from rfl, El.sm, -List.contains_eq_mem]
    refine ⟨szle (by simp; omega), ?_⟩
    simp [frzs, frz1]
    have ea := e_answers_of (n := k) (r := 1) (T := fun a b => (if frN h.stands.length (chM h c) es b = frN h.stands.length (chM h c) es a then 1 else 0) - chM h c (frN h.stands.length (chM h c) es a) (frN h.stands.length (chM h c) es b)) (G := fun a _ => qsum (es.map fun g => chM h c (frN h.stands.length (chM h c) es a) g)) (K := 180) (s := s') rfl rfl
      (by rw [ew]; exact fun t ht => El.gj_piv ns ht) (by rw [ew]; exact fun t i j ht hi _ => bd t i j (by rw [hF, hk]; exact ht) (by rw [hF, hk]; exact hi)) (by decide) (by omega)
    refine WF.of ea ?_
    have eX : ((List.range k).map fun i => PyData.tuple (rowL 1 fun j => El.gj (wide k (fun a b => (if frN h.stands.length (chM h c) es b = frN h.stands.length (chM h c) es a then 1 else 0) - chM h c (frN h.stands.length (chM h c) es a) (frN h.stands.length (chM h c) es b)) (fun a _ => qsum (es.map fun g => chM h c (frN h.stands.length (chM h c) es a) g))) k i (k + j))) = (List.range k).map fun b => PyData.tuple [pQ (comX h.stands.length (chM h c) es b)] := by
      rw [ew, ← hk, ← hF]
      rfl
    rw [eX]
    simp
    rw [pairs_same]
    refine WFor_inv (fun b : Nat => PyData.tuple [(iN ∘ frN h.stands.length (chM h c) es) b, PyData.tuple [pQ (comX h.stands.length (chM h c) es b)]]) (List.range k) (fun t ρ s2 => s2 = s' ∧ ∃ (x3 x4 x5 x6 x7 x8 x10 x11 x12 : Option Cl), ρ = [some (.d (pHouse h)), some (.d (.tuple (es.map iN))), some (.d (.tuple (c.map iN))), x3, x4, x5, x6, x7, x8, some (.o (rowL h.stands.length (comP h.stands.length (chM h c) es t))), x10, x11, x12]) ⟨rfl, _, _, _, _, _, _, _, _, _, rfl⟩ ?_ ?_
    · rintro t x ρ s2 hx ⟨rfl, x3, x4, x5, x6, x7, x8, x10, x11, x12, rfl⟩
      obtain ⟨rfl, ht⟩ := range_at hx
      obtain ⟨hi, _, _⟩ := frb x ht
      have es := comP_set (n := h.stands.length) (M := chM h c) (es := es) (t := x) (by rw [hF, hk]; exact ht)
      simp [iN, Dh.putL, rowL_len, ixN_ofNat hi, es]
    · rintro ρ s2 ⟨rfl, x3, x4, x5, x6, x7, x8, x10, x11, x12, rfl⟩
      rw [List.length_range]
      simp
      rw [← hk, ← hF]
      exact rowL_congr fun i _ => comP_all
end
end WW
namespace Dh
open PySem PySem.Spec L2 PySem.W
section
variable {n : Nat} {M : Nat → Nat → Rat} {es : List Nat}
def nearL (n : Nat) (M : Nat → Nat → Rat) (es : List Nat) (t : Nat) : List Nat := (List.range n).filter (near n M es t)
theorem nearL_0 (eo : EndsOk n es) : nearL n M es 0 = es := eo.eq.symm
theorem nearL_lt {t i : Nat} (h : i ∈ nearL n M es t) : i < n := List.mem_range.mp (List.mem_filter.mp h).1
theorem nearL_len {t : Nat} : (nearL n M es t).length ≤ n := by
  have := List.length_filter_le (near n M es t) (List.range n)
  rw [List.length_range] at this
  exact this
theorem nearL_has {t i : Nat} (hi : i < n) : (nearL n M es t).contains i = near n M es t i := by
  rw [Bool.eq_iff_iff, List.contains_iff_mem]
  unfold nearL
  rw [List.mem_filter, List.mem_range]
  exact ⟨fun h => h.2, fun h => ⟨hi, h⟩⟩
theorem nearL_succ {t : Nat} : nearL n M es (t + 1) = (List.range n).filter fun i => (nearL n M es t).contains i || (nearL n M es t).any fun l => decide (0 < M i l) := by
  refine List.filter_congr fun i hi => ?_
  rw [nearL_has (List.mem_range.mp hi)]
  show (_ || _) = _
  congr 1
  unfold nearL
  rw [List.any_filter]
theorem ends_len (eo : EndsOk n es) : es.length ≤ n := by
  rw [eo.eq]
  exact Nat.le_trans (List.length_filter_le _ _) (by rw [List.length_range]; exact Nat.le_refl _)
end
/-- ends as the law has them, in a tuple or a list -/
def EsD (es : List Nat) (e : PyData) : Prop := e = .tuple (es.map iN) ∨ e = .list (es.map iN)
theorem EsD.seq {es : List Nat} {e : PyData} (h : EsD es e) : itemsOf (.d e) = some (es.map iN) := by
  rcases h with rfl | rfl <;> rfl
theorem EsD.isin {es : List Nat} {e : PyData} (h : EsD es e) (sm : Sm es) {i : Nat} {neg : Bool} : fIn neg (.d (.int (i : Int))) (.d e) = some (.d (.bool (if neg then !es.contains i else es.contains i))) := by
  rcases h with rfl | rfl
  · exact fIn_t sm
  · exact fIn_l sm
theorem EsD.lst {es : List Nat} {e : PyData} (h : EsD es e) (hl : es.length ≤ 1000) : fLstOf [.d e] = some (.f (es.map iN)) := by
  rcases h with rfl | rfl <;> simp [fLstOf, szle hl]
end Dh
namespace WW
open PySem PySem.Spec L2 PySem.W Dh
theorem e_ltotal {x : PyData} {l : List Rat} {k : Nat} {s : Sto} (hx : itemsOf (.d x) = some (l.map pQ)) (hl : ∀ q ∈ l, QLt k q) (h : 1 + (k + 1) * l.length + k ≤ 4500) : f_law_total [.d x] s = some (.d (pQ (qsum l)), s) := by
  refine WF.eq (WF.body rfl ?_)
  simp [m_law_total, List.replicate_succ, hx, sz2]
  refine WFor_inv pQ l (fun i ρ s' => s' = s ∧ ∃ c, ρ = [some (.d x), some (.d (pQ (qsum (l.take i)))), c]) ⟨rfl, none, rfl⟩ ?_ ?_
  · rintro i q ρ s' hq ⟨rfl, c, rfl⟩
    simp
    refine WF.of (e_lplus (qsum_take_lt hl).bd ((hl q (List.mem_of_getElem? hq)).bd)) ?_
    rw [take_snoc hq, qsum_snoc]
    simp
  · rintro ρ s' ⟨rfl, c, rfl⟩
    simp
section
variable {N D P g o K : Nat} {h : RHouse} {plan : List (List Rat)} {es : List Nat} {s : Sto}
theorem e_lleads {n : Nat} {f : Nat → Rat} {L : List Nat} (hL : ∀ i ∈ L, i < n) (hl : L.length ≤ 1000) : f_law_leads [.d (.list (rowL n f)), .d (.list (L.map iN))] s = some (.d (.bool (L.any fun l => decide (0 < f l))), s) := by
  refine WF.eq (WF.body rfl ?_)
  simp [m_law_leads, List.replicate_succ]
  refine WLc_map iN (fun l => PyData.bool (decide (0 < f l))) L (fun l hl => ?_) ?_
  · have e1 := atI_row (w := n) (f := f) (hL l hl)
    have e2 : decide (0 < (f l).num) = decide (0 < f l) := by
      rw [decide_eq_decide, Rat.lt_iff]
      simp
    simp [iN, e1, ix_num, gGt, e2]
  refine ⟨szle (by rw [List.length_map]; exact hl), ?_⟩
  simp [fAny_of]
theorem e_lcoming {e : PyData} {M : Nat → Nat → Rat} (wd : Wd g h) (hMv : ∀ i l, i < h.stands.length → l < h.stands.length → Mv h plan i l = M i l) (st : Sto1 h.stands.length M) (pl : PlanOk o h plan) (ho : o ≤ 10) (eo : EndsOk h.stands.length es) (he : EsD es e) (hb : ComB h.stands.length M es K) (hK : K ≤ 1500) :
    f_law_coming [.d (pHouse h), .d e, .d (pPlan plan)] s = some (.d (.tuple (rowL h.stands.length (com h.stands.length M es))), s) := by
  have hn := wd.n9
  have es9 := ends_len eo
  have ess := ends_small eo (by omega)
  have ns := com_ns (es := es) st
  have hM : ∀ i l, i < h.stands.length → l < h.stands.length → QLt 1000 (M i l) := fun i l hi hl => by rw [← hMv i l hi hl]; exact (Mv_ltW wd pl hi l).mono (by omega)
  have hM2 : ∀ i l, i < h.stands.length → l < h.stands.length → QLt (1 + (10 + o + 1) * 9) (M i l) := fun i l hi hl => by rw [← hMv i l hi hl]; exact Mv_ltW wd pl hi l
  have lv := fun s => e_lmoves (s := s) wd pl (by omega)
  rw [rowsL_congr hMv] at lv
  have fl := free_len (n := h.stands.length) (M := M) (es := es)
  have frb := fun b (hb : b < (free h.stands.length M es).length) => frN_mem hb
  have eF : free h.stands.length M es = (List.range (free h.stands.length M es).length).map (frN h.stands.length M es) := by
    have := map_range (d := 0) (free h.stands.length M es) (fun x => x)
    rw [List.map_id'] at this
    exact this
  refine WF.eq (WF.body rfl ?_)
  simp [m_law_coming, List.replicate_succ]
  refine WF.of (lv _) ?_
  simp [he.lst (show es.length ≤ 1000 by omega), sz2, rowsL_len, range1_nat (n := h.stands.length) (by omega)]
  refine WFor_inv (fun i : Nat => PyData.int i) (List.range h.stands.length) (fun t ρ s' => s' = s ∧ ∃ (X : Cl) (x6 x7 x8 x9 x10 x11 x12 x13 : Option Cl), ρ = [some (.d (pHouse h)), some (.d e), some (.d (pPlan plan)), some (.d (.list (rowsL h.stands.length h.stands.length M))), some X, some (.d (.int (h.stands.length : Int))), x6, x7, x8, x9, x10, x11, x12, x13] ∧
      (X = .d (.list ((nearL h.stands.length M es t).map iN)) ∨ X = .o ((nearL h.stands.length M es t).map iN))) ⟨rfl, _, none, none, none, none, none, none, none, none, rfl, .inl (by rw [nearL_0 eo])⟩ ?_ ?_
  · rintro t x ρ s' hx ⟨rfl, X, x6, x7, x8, x9, x10, x11, x12, x13, rfl, hX⟩
    have key : ∀ ρ, ρ = [some (Cl.d (pHouse h)), some (.d e), some (.d (pPlan plan)), some (.d (.list (rowsL h.stands.length h.stands.length M))), some (.d (.list ((nearL h.stands.length M es t).map iN))), some (.d (.int (h.stands.length : Int))), some (.d (.int (x : Int))), x7, x8, x9, x10, x11, x12, x13] →
        WLc [9] (gN 9) (tOr2 (bT (m2 (fIn false) (mVar 9) (mVar 4))) (bT (mCall f_law_leads (maCons (mIx (mVar 3) (mVar 9)) (maCons (mVar 4) maNil))))) (mVar 9) ((List.range h.stands.length).map fun i => PyData.int (i : Nat)) ρ s' fun ys s2 => s2 = s' ∧ ys = (nearL h.stands.length M es (t + 1)).map iN := by
      rintro ρ rfl
      have sm : Sm (nearL h.stands.length M es t) := Sm.of (by omega) (fun k hk => nearL_lt hk) nearL_len
      have nl := nearL_len (n := h.stands.length) (M := M) (es := es) (t := t)
      have nlt : ∀ i ∈ nearL h.stands.length M es t, i < h.stands.length := fun i hi => nearL_lt hi
      rw [nearL_succ]
      generalize nearL h.stands.length M es t = L at *
      refine WLc_opt (fun i : Nat => PyData.int (i : Nat)) (fun i => if (L.contains i || L.any fun l => decide (0 < M i l)) = true then some (iN i) else none) (List.range h.stands.length) (fun i hi => ?_) ⟨rfl, filterMap_if _⟩
      rw [List.mem_range] at hi
      have e1 := atI_rows (n := h.stands.length) (w := h.stands.length) (R := M) hi
      simp [fIn_l sm, -List.contains_eq_mem, -List.any_eq_true]
      by_cases q : L.contains i = true
      · simp [q, iN, -List.contains_eq_mem]
      · rw [Bool.not_eq_true] at q
        simp [q, e1, -List.contains_eq_mem]
        refine WF.of (e_lleads nlt (by omega)) ?_
        by_cases q2 : (L.any fun l => decide (0 < M i l)) = true
        · rw [q2]; simp [iN]
        · rw [Bool.not_eq_true] at q2
          rw [q2]; simp; simpa using q
    rcases hX with rfl | rfl
    · simp [frzs, frz1, range1_nat (n := h.stands.length) (by omega)]
      refine WLc.use (key _ rfl) ?_
      rintro _ _ ⟨rfl, rfl⟩
      refine ⟨szle (by rw [List.length_map]; have := nearL_len (n := h.stands.length) (M := M) (es := es) (t := t + 1); omega), ?_⟩
      simp
    · simp [frzs, frz1, range1_nat (n := h.stands.length) (by omega)]
      refine WLc.use (key _ rfl) ?_
      rintro _ _ ⟨rfl, rfl⟩
      refine ⟨szle (by rw [List.length_map]; have := nearL_len (n := h.stands.length) (M := M) (es := es) (t := t + 1); omega), ?_⟩
      simp
  rintro ρ s' ⟨rfl, X, x6, x7, x8, x9, x10, x11, x12, x13, rfl, hX⟩
  rw [List.length_range] at hX
  have fz : frzs [some (Cl.d (pHouse h)), some (.d e), some (.d (pPlan plan)), some (.d (.list (rowsL h.stands.length h.stands.length M))), some X, some (.d (.int (h.stands.length : Int))), x6, x7, x8, x9, x10, x11, x12, x13] [4] = [some (Cl.d (pHouse h)), some (.d e), some (.d (pPlan plan)), some (.d (.list (rowsL h.stands.length h.stands.length M))), some (.d (.list ((nearL h.stands.length M es h.stands.length).map iN))), some (.d (.int (h.stands.length : Int))), x6, x7, x8, x9, x10, x11, x12, x13] := by
    rcases hX with rfl | rfl <;> simp [frzs, frz1]
  simp [fz]
  refine WLc_opt iN (fun i => if (!es.contains i) = true then some (iN i) else none) _ (fun i hi => ?_) ?_
  · simp [iN, he.isin ess, -List.contains_eq_mem]
    by_cases q : es.contains i = true
    · simp [q, -List.contains_eq_mem]
    · rw [Bool.not_eq_true] at q
      simp [q, iN, -List.contains_eq_mem]
  rw [filterMap_if]
  rw [show (nearL h.stands.length M es h.stands.length).filter (fun i => !es.contains i) = free h.stands.length M es from by
    unfold free nearL
    rw [List.filter_filter]
    congr 1
    funext a
    rw [Bool.and_comm]
    rfl]
  generalize hF : free h.stands.length M es = F at *
  refine ⟨szle (by simp; omega), ?_⟩
  simp [frzs, frz1]
  rw [eF, List.map_map]
  generalize hk : F.length = k at *
  refine WFor_inv (iN ∘ frN h.stands.length M es) (List.range k) (fun t ρ s2 => s2 = s' ∧ ∃ (x6 x9 x10 x11 x12 x13 : Option Cl), ρ = [some (.d (pHouse h)), some (.d e), some (.d (pPlan plan)), some (.d (.list (rowsL h.stands.length h.stands.length M))), some (.d (.list ((nearL h.stands.length M es h.stands.length).map iN))), some (.d (.int (h.stands.length : Int))), x6, some (.d (.list ((List.range k).map (iN ∘ frN h.stands.length M es)))),
      some (.o (rowsL t (k + 1) (comA h.stands.length M es))), x9, x10, x11, x12, x13]) ⟨rfl, _, _, _, _, _, _, rfl⟩ ?_ ?_
  · rintro t x ρ s2 hx ⟨rfl, x6, x9, x10, x11, x12, x13, rfl⟩
    obtain ⟨rfl, ht⟩ := range_at hx
    obtain ⟨hi, _, _⟩ := frb x ht
    generalize hfx : frN h.stands.length M es x = i at *
    have e1 := atI_rows (n := h.stands.length) (w := h.stands.length) (R := M) hi
    simp [hfx, frzs, frz1]
    refine WLc_map (iN ∘ frN h.stands.length M es) (fun b => pQ ((if frN h.stands.length M es b = i then 1 else 0) - M i (frN h.stands.length M es b))) (List.range k) (fun b hb => ?_) ?_
    · rw [List.mem_range] at hb
      have e2 := atI_row (w := h.stands.length) (f := M i) (frb b hb).1
      simp [iN, hfx, fEq_int, e1, e2]
      by_cases q : frN h.stands.length M es b = i
      · rw [q] at e2
        simp [q, sz2, e1, e2]
        exact WF.of (e_lminus (p := 1) ((QLt_1 (k := 1)).bd) ((hM i i hi hi).bd)) (by simp [q])
      · have q' : ¬ (i : Int) = (frN h.stands.length M es b : Int) := by omega
        simp [q, q', sz2, e1, e2]
        exact WF.of (e_lminus (p := 0) ((QLt_0 (k := 1)).bd) ((hM i _ hi (frb b hb).1).bd)) (by simp [q])
    refine ⟨szle (by simp; omega), ?_⟩
    simp [he.seq, hfx]
    refine WLc_map iN (fun g => pQ (M i g)) es (fun b hb => ?_) ?_
    · have e2 := atI_row (w := h.stands.length) (f := M i) (eo.lt hb)
      simp [iN, hfx, e1, e2]
    refine ⟨szle (by rw [List.length_map]; omega), ?_⟩
    have et := e_ltotal (x := .list (es.map fun g => pQ (M i g))) (l := es.map fun g => M i g) (k := 1 + (10 + o + 1) * 9) (s := s2) (by simp) (fun q hq => by
      obtain ⟨g, hg, rfl⟩ := List.mem_map.mp hq
      exact hM2 i g hi (eo.lt hg)) (by rw [List.length_map]; have := Nat.mul_le_mul_left (1 + (10 + o + 1) * 9 + 1) (show es.length ≤ 9 by omega); omega)
    simp
    refine WF.of et ?_
    simp [sz1, fAdd, szle (show k + 1 ≤ 1000 by omega), szlt (show x ≤ 1000 by omega), rowsL_len]
    unfold rowsL
    rw [List.range_succ, List.map_append]
    congr 1
    show [PyData.list _] = [PyData.list _]
    congr 2
    unfold rowL
    rw [List.range_succ, List.map_append]
    congr 1
    · refine List.map_congr_left fun b hb => ?_
      unfold comA
      rw [hF, hk, if_pos (List.mem_range.mp hb), hfx]
    · show [pQ _] = [pQ _]
      unfold comA
      rw [hF, hk, if_neg (by omega), hfx]
  rintro ρ s2 ⟨rfl, x6, x9, x10, x11, x12, x13, rfl⟩
  rw [List.length_range]
  simp [range1_nat (n := h.stands.length) (by omega)]
  refine WLc_map (fun i : Nat => PyData.int i) (fun i => pQ (comP h.stands.length M es 0 i)) (List.range h.stands.length) (fun i hi => ?_) ?_
  · simp [he.isin ess, sz2, -List.contains_eq_mem]
    unfold comP
    by_cases q : es.contains i = true
    · simp [q, sz2, -List.contains_eq_mem]; rfl
    · rw [Bool.not_eq_true] at q
      simp [q, sz2, El.sm, -List.contains_eq_mem]; rfl
  refine ⟨szle (by simp; omega), ?_⟩
  simp [frzs, frz1]
  have ea := e_lsolved (n := k) (r := 1) (A := comA h.stands.length M es) (K := K) (s := s2) (fun t ht => El.gj_piv ns ht) (fun t i j ht hi _ => hb t i j (by rw [hF, hk]; exact ht) (by rw [hF, hk]; exact hi)) hK (by omega)
  refine WF.of ea ?_
  have eX : ((List.range k).map fun i => PyData.tuple (rowL 1 fun j => El.gj (comA h.stands.length M es) k i (k + j))) = (List.range k).map fun b => PyData.tuple [pQ (comX h.stands.length M es b)] := by
    rw [← hk, ← hF]
    rfl
  rw [eX]
  simp
  rw [pairs_same]
  refine WFor_inv (fun b : Nat => PyData.tuple [(iN ∘ frN h.stands.length M es) b, PyData.tuple [pQ (comX h.stands.length M es b)]]) (List.range k) (fun t ρ s3 => s3 = s2 ∧ ∃ (x3 x4 x5 x6 x7 x8 x9 x10 x12 x13 : Option Cl), ρ = [some (.d (pHouse h)), some (.d e), some (.d (pPlan plan)), x3, x4, x5, x6, x7, x8, x9, x10, some (.o (rowL h.stands.length (comP h.stands.length M es t))), x12, x13]) ⟨rfl, _, _, _, _, _, _, _, _, _, _, rfl⟩ ?_ ?_
  · rintro t x ρ s3 hx ⟨rfl, x3, x4, x5, x6, x7, x8, x9, x10, x12, x13, rfl⟩
    obtain ⟨rfl, ht⟩ := range_at hx
    obtain ⟨hi, _, _⟩ := frb x ht
    have es := comP_set (n := h.stands.length) (M := M) (es := es) (t := x) (by rw [hF, hk]; exact ht)
    simp [iN, Dh.putL, rowL_len, ixN_ofNat hi, es]
  · rintro ρ s3 ⟨rfl, x3, x4, x5, x6, x7, x8, x9, x10, x12, x13, rfl⟩
    rw [List.length_range]
    simp
    rw [← hk, ← hF]
    exact rowL_congr fun i _ => comP_all
end
end WW
namespace Dh
open PySem PySem.Spec L2 PySem.W
section
variable {n : Nat} {M M' : Nat → Nat → Rat} {es : List Nat}
/-- where what was left is bettered, the chances of coming do not fall -/
theorem com_up (st : Sto1 n M) (st' : Sto1 n M') (eo : EndsOk n es) (H : ∀ i, i < n → i ∉ es → (∀ l, l < n → M' i l = M i l) ∨ com n M es i < El.sm n fun l => M' i l * com n M es l) {i : Nat} (hi : i < n) : com n M es i ≤ com n M' es i := by
  have step : ∀ i, i < n → i ∉ es → com n M es i ≤ El.sm n fun l => M' i l * com n M es l := fun i hi he => by
    rcases H i hi he with a | a
    · rw [El.sm_congr (g := fun l => M i l * com n M es l) fun l hl => by rw [a l hl], ← com_eq st eo hi he]
      exact Rat.le_refl
    · exact Rat.le_of_lt a
  refine le_com st' eo (fun i hi => by rw [com_end hi]; exact Rat.le_refl) (fun i hi he _ => step i hi he) (fun i hi hr => ?_) hi
  refine Classical.byContradiction fun z => ?_
  have nor : ∀ i l, i < n → l < n → rc n M' es i = false → 0 < M' i l → rc n M' es l = false := fun i l hi hl a b => by
    cases e : rc n M' es l with
    | false => rfl
    | true => rw [rc_step hi hl e b] at a; cases a
  have noe : ∀ i, rc n M' es i = false → i ∉ es := fun i a b => by rw [rc_end b] at a; cases a
  let d : Nat → Rat := fun l => if rc n M' es l = true then 0 else com n M es l
  have df : ∀ l, rc n M' es l = false → d l = com n M es l := fun l a => by
    show (if _ then _ else _) = _
    rw [a]; rfl
  have dt : ∀ l, rc n M' es l = true → d l = 0 := fun l a => by
    show (if _ then _ else _) = _
    rw [a]; rfl
  have same : ∀ i, i < n → rc n M' es i = false → El.sm n (fun l => M' i l * d l) = El.sm n fun l => M' i l * com n M es l := fun i hi a => El.sm_congr fun l hl => by
    by_cases p : 0 < M' i l
    · rw [df l (nor i l hi hl a p)]
    · have := st'.nn i l hi hl
      rw [show M' i l = 0 by grind, Rat.zero_mul, Rat.zero_mul]
  obtain ⟨m, mp, ⟨j, hj, ej⟩, _, cl⟩ := max_set (d := d) st' (fun i hi p => by
    cases e : rc n M' es i with
    | true => rw [dt i e] at p; exact absurd p (by decide)
    | false =>
      rw [df i e, same i hi e]
      exact step i hi (noe i e)) ⟨i, hi, by rw [df i hr]; grind⟩
  have out : ∀ i, d i = m → rc n M' es i = false := fun i e => by
    cases q : rc n M' es i with
    | false => rfl
    | true => rw [dt i q] at e; rw [← e] at mp; exact absurd mp (by decide)
  have c := rc_closed (M := M) (es := es) (n := n) (S := fun i => d i = m) (fun i hi e => noe i (out i e) hi) (fun i l hi hl e p => by
    have oi := out i e
    obtain ⟨e1, e2⟩ := cl i hi e
    rcases H i hi (noe i oi) with a | a
    · exact e2 l hl (by rw [a l hl]; exact p)
    · rw [df i oi, same i hi oi] at e1
      grind) hj ej
  rw [df j (out j ej), com_out c] at ej
  rw [← ej] at mp
  exact absurd mp (by decide)
theorem com_up_strict (st : Sto1 n M) (st' : Sto1 n M') (eo : EndsOk n es) (H : ∀ i, i < n → i ∉ es → (∀ l, l < n → M' i l = M i l) ∨ com n M es i < El.sm n fun l => M' i l * com n M es l) {i : Nat} (hi : i < n) (he : i ∉ es) (h : com n M es i < El.sm n fun l => M' i l * com n M es l) : com n M es i < com n M' es i := by
  rw [com_eq st' eo hi he]
  have : El.sm n (fun l => M' i l * com n M es l) ≤ El.sm n (fun l => M' i l * com n M' es l) := El.sm_le fun l hl => Rat.mul_le_mul_of_nonneg_left (com_up st st' eo H hl) (st'.nn i l hi hl)
  grind
end
/-- how many choices are above -/
def muF (h : RHouse) (f : List Nat → Rat) (c : List Nat) : Nat := (chs (counts h)).countP fun e => decide (f c < f e)
theorem muF_lt {h : RHouse} {f : List Nat → Rat} {c c' : List Nat} (hc' : ChoiceOk h c') (h1 : f c < f c') : muF h f c' < muF h f c := by
  unfold muF
  refine countP_lt (fun e he => ?_) ⟨c', chs_choice.mpr hc', ?_, ?_⟩
  · rw [decide_eq_true_iff] at he ⊢; grind
  · rw [decide_eq_true_iff]; exact h1
  · rw [decide_eq_false_iff_not]; grind
/-- the deed that better_deed tells, and what it brings -/
def betF (ds : List RDeed) (v : Nat → Rat) (x : Rat) (c0 : Nat) : Nat → Nat × Rat
  | 0 => (c0, x)
  | k + 1 => if (betF ds v x c0 k).2 < ahead (ds.getD k d0).ch v then (k, ahead (ds.getD k d0).ch v) else betF ds v x c0 k
theorem betF_ok {ds : List RDeed} {v : Nat → Rat} {x : Rat} {c0 : Nat} : ∀ k, x ≤ (betF ds v x c0 k).2 ∧ (∀ j, j < k → ahead (ds.getD j d0).ch v ≤ (betF ds v x c0 k).2) ∧
    (betF ds v x c0 k = (c0, x) ∨ ((betF ds v x c0 k).1 < k ∧ (betF ds v x c0 k).2 = ahead (ds.getD (betF ds v x c0 k).1 d0).ch v ∧ x < (betF ds v x c0 k).2))
  | 0 => ⟨Rat.le_refl, fun j hj => by omega, .inl rfl⟩
  | k + 1 => by
    obtain ⟨a, b, c⟩ := betF_ok (ds := ds) (v := v) (x := x) (c0 := c0) k
    unfold betF
    by_cases q : (betF ds v x c0 k).2 < ahead (ds.getD k d0).ch v
    · rw [if_pos q]
      refine ⟨by dsimp only; grind, fun j hj => ?_, .inr ⟨by dsimp only; omega, rfl, by dsimp only; grind⟩⟩
      dsimp only
      by_cases e : j = k
      · subst e; exact Rat.le_refl
      · have := b j (by omega); grind
    · rw [if_neg q]
      refine ⟨a, fun j hj => ?_, ?_⟩
      · by_cases e : j = k
        · subst e; grind
        · exact b j (by omega)
      · rcases c with c | ⟨c1, c2, c3⟩
        · exact .inl c
        · exact .inr ⟨by omega, c2, c3⟩
section
variable {N D P g : Nat} {h : RHouse} {c es : List Nat}
def cv (h : RHouse) (es c : List Nat) (i : Nat) : Rat := com h.stands.length (chM h c) es i
def betC (h : RHouse) (es c : List Nat) (i : Nat) : Nat := if es.contains i then c.getD i 0 else (betF (h.stands.getD i []) (cv h es c) (cv h es c i) (c.getD i 0) (h.stands.getD i []).length).1
def nextC (h : RHouse) (es c : List Nat) : List Nat := (List.range h.stands.length).map (betC h es c)
theorem nextC_at {i : Nat} (hi : i < h.stands.length) : (nextC h es c).getD i 0 = betC h es c i := by
  unfold nextC
  rw [List.getD_eq_getElem?_getD, List.getElem?_map, List.getElem?_range hi]; rfl
theorem betC_lt (ok : HouseOk N D P h g) (hc : ChoiceOk h c) {i : Nat} (hi : i < h.stands.length) : betC h es c i < (h.stands.getD i []).length := by
  unfold betC
  by_cases q : es.contains i = true
  · rw [if_pos q]; exact hc.lt hi
  · rw [if_neg q]
    rcases (betF_ok (ds := h.stands.getD i []) (v := cv h es c) (x := cv h es c i) (c0 := c.getD i 0) (h.stands.getD i []).length).2.2 with e | ⟨a, _, _⟩
    · rw [e]; exact hc.lt hi
    · exact a
theorem choice_of {f : Nat → Nat} (hf : ∀ i, i < h.stands.length → f i < (h.stands.getD i []).length) : ChoiceOk h ((List.range h.stands.length).map f) := by
  refine ⟨by simp, fun i st k hst hk => ?_⟩
  have hi : i < h.stands.length := (List.getElem?_eq_some_iff.mp hst).1
  rw [List.getElem?_map, List.getElem?_range hi] at hk
  cases hk
  have e : st = h.stands.getD i [] := by rw [List.getD_eq_getElem?_getD, hst]; rfl
  rw [e]
  exact hf i hi
theorem nextC_ok (ok : HouseOk N D P h g) (hc : ChoiceOk h c) : ChoiceOk h (nextC h es c) := choice_of fun i hi => betC_lt ok hc hi
theorem chM_ahead (ok : HouseOk N D P h g) (hc : ChoiceOk h c) {v : Nat → Rat} {i : Nat} (hi : i < h.stands.length) : El.sm h.stands.length (fun l => chM h c i l * v l) = ahead (dd h c i).ch v := ((dd_ok ok hc hi).ch.ahead).symm
theorem cv_eq (ok : HouseOk N D P h g) (hc : ChoiceOk h c) (eo : EndsOk h.stands.length es) {i : Nat} (hi : i < h.stands.length) (he : i ∉ es) : cv h es c i = ahead (dd h c i).ch (cv h es c) := by
  unfold cv
  rw [com_eq (chM_sto ok hc) eo hi he, chM_ahead ok hc hi]
theorem next_H (ok : HouseOk N D P h g) (hc : ChoiceOk h c) : ∀ i, i < h.stands.length → i ∉ es → ((nextC h es c).getD i 0 = c.getD i 0 ∧ ∀ l, l < h.stands.length → chM h (nextC h es c) i l = chM h c i l) ∨ com h.stands.length (chM h c) es i < El.sm h.stands.length fun l => chM h (nextC h es c) i l * com h.stands.length (chM h c) es l := fun i hi he => by
  have hq : es.contains i = false := by rw [← Bool.not_eq_true, List.contains_iff_mem]; exact he
  have e1 : (nextC h es c).getD i 0 = (betF (h.stands.getD i []) (cv h es c) (cv h es c i) (c.getD i 0) (h.stands.getD i []).length).1 := by
    rw [nextC_at hi]
    unfold betC
    rw [hq]; rfl
  rcases (betF_ok (ds := h.stands.getD i []) (v := cv h es c) (x := cv h es c i) (c0 := c.getD i 0) (h.stands.getD i []).length).2.2 with e | ⟨a, b, d⟩
  · refine .inl ⟨by rw [e1, e], fun l _ => ?_⟩
    unfold chM dd
    rw [e1, e]
  · refine .inr ?_
    rw [chM_ahead ok (nextC_ok ok hc) hi]
    unfold dd
    rw [e1]
    show cv h es c i < ahead _ (cv h es c)
    rw [← b]
    exact d
theorem next_fix (ok : HouseOk N D P h g) (hc : ChoiceOk h c) (eo : EndsOk h.stands.length es) (hf : nextC h es c = c) : ∀ i, i < h.stands.length → i ∉ es → ∀ d ∈ h.stands.getD i [], ahead d.ch (cv h es c) ≤ cv h es c i := fun i hi he d hd => by
  have hq : es.contains i = false := by rw [← Bool.not_eq_true, List.contains_iff_mem]; exact he
  have e1 : (nextC h es c).getD i 0 = (betF (h.stands.getD i []) (cv h es c) (cv h es c i) (c.getD i 0) (h.stands.getD i []).length).1 := by
    rw [nextC_at hi]
    unfold betC
    rw [hq]; rfl
  rw [hf] at e1
  obtain ⟨a, b, e⟩ := betF_ok (ds := h.stands.getD i []) (v := cv h es c) (x := cv h es c i) (c0 := c.getD i 0) (h.stands.getD i []).length
  have top : (betF (h.stands.getD i []) (cv h es c) (cv h es c i) (c.getD i 0) (h.stands.getD i []).length).2 = cv h es c i := by
    rcases e with e | ⟨_, e2, e3⟩
    · rw [e]
    · rw [← e1] at e2
      have := cv_eq ok hc eo hi he
      unfold dd at this
      rw [← this] at e2
      exact e2
  obtain ⟨k, hk, ek⟩ := List.mem_iff_getElem.mp hd
  have ed : (h.stands.getD i []).getD k d0 = d := by rw [List.getD_eq_getElem?_getD, List.getElem?_eq_getElem hk, ek]; rfl
  have := b k hk
  rw [ed, top] at this
  exact this
def fS (h : RHouse) (es c : List Nat) : Rat := El.sm h.stands.length (cv h es c)
theorem next_mu (ok : HouseOk N D P h g) (hc : ChoiceOk h c) (eo : EndsOk h.stands.length es) (hne : nextC h es c ≠ c) : muF h (fS h es) (nextC h es c) < muF h (fS h es) c := by
  have hn := nextC_ok (es := es) ok hc
  have H := next_H (es := es) ok hc
  have H' : ∀ i, i < h.stands.length → i ∉ es → (∀ l, l < h.stands.length → chM h (nextC h es c) i l = chM h c i l) ∨ com h.stands.length (chM h c) es i < El.sm h.stands.length fun l => chM h (nextC h es c) i l * com h.stands.length (chM h c) es l := fun i hi he => (H i hi he).imp (·.2) id
  refine muF_lt hn ?_
  have ex : ∃ i, i < h.stands.length ∧ i ∉ es ∧ com h.stands.length (chM h c) es i < El.sm h.stands.length fun l => chM h (nextC h es c) i l * com h.stands.length (chM h c) es l := Classical.byContradiction fun z => hne (by
    apply List.ext_getElem?
    intro i
    by_cases hi : i < h.stands.length
    · rw [getD_at (d := 0) (by rw [hn.1]; exact hi), getD_at (d := 0) (by rw [hc.1]; exact hi)]
      congr 1
      by_cases he : i ∈ es
      · rw [nextC_at hi]
        unfold betC
        rw [if_pos (by rw [List.contains_iff_mem]; exact he)]
      · rcases H i hi he with a | a
        · exact a.1
        · exact absurd ⟨i, hi, he, a⟩ z
    · rw [List.getElem?_eq_none (by rw [hn.1]; omega), List.getElem?_eq_none (by rw [hc.1]; omega)])
  obtain ⟨i, hi, he, a⟩ := ex
  have b := com_up_strict (chM_sto ok hc) (chM_sto ok hn) eo H' hi he a
  have le : ∀ l, l < h.stands.length → 0 ≤ cv h es (nextC h es c) l - cv h es c l := fun l hl => by
    have := com_up (chM_sto ok hc) (chM_sto ok hn) eo H' hl
    unfold cv
    grind
  have s1 := El.sm_sub (n := h.stands.length) (f := cv h es (nextC h es c)) (g := cv h es c)
  have s2 : El.sm h.stands.length (fun j => if j = i then cv h es (nextC h es c) i - cv h es c i else 0) ≤ El.sm h.stands.length (fun l => cv h es (nextC h es c) l - cv h es c l) := El.sm_le fun j hj => by
    by_cases e : j = i
    · subst e; rw [if_pos rfl]; exact Rat.le_refl
    · rw [if_neg e]; exact le j hj
  rw [El.sm_one hi fun j _ hj => by rw [if_neg hj], if_pos rfl] at s2
  unfold fS
  have b' : cv h es c i < cv h es (nextC h es c) i := b
  grind
/-- no choice's chances are above numbers that no deed betters -/
theorem cv_top (ok : HouseOk N D P h g) (hc : ChoiceOk h c) (eo : EndsOk h.stands.length es) (hf : ∀ i, i < h.stands.length → i ∉ es → ∀ d ∈ h.stands.getD i [], ahead d.ch (cv h es c) ≤ cv h es c i) {e : List Nat} (he : ChoiceOk h e) {i : Nat} (hi : i < h.stands.length) : cv h es e i ≤ cv h es c i :=
  com_le (chM_sto ok he) eo (v := cv h es c) (fun i hi => com_nonneg (chM_sto ok hc) eo hi) (fun i hi => by unfold cv; rw [com_end hi]; exact Rat.le_refl) (fun i hi hn => by
    rw [chM_ahead ok he hi]
    exact hf i hi hn _ (List.mem_of_getElem? (getD_at (he.lt hi)))) hi
theorem cv_lt (ok : HouseOk N D P h g) (hN : N ≤ 9) (hc : ChoiceOk h c) (eo : EndsOk h.stands.length es) (i : Nat) : QLt 180 (cv h es c i) := com_lt (chM_com ok hN hc eo) (by decide) i
end
end Dh
namespace Dh
open PySem PySem.Spec L2 PySem.W
theorem drawn_ends {n : Nat} {p : Nat → Bool} (h : ∃ i, i < n ∧ p i = true) : EndsOk n ((List.range n).filter p) := by
  refine ⟨List.filter_congr fun i hi => ?_, fun e => ?_⟩
  · rw [Bool.eq_iff_iff, List.contains_iff_mem, List.mem_filter]
    exact ⟨fun a => ⟨hi, a⟩, fun a => a.2⟩
  · obtain ⟨i, hi, a⟩ := h
    have : i ∈ (List.range n).filter p := List.mem_filter.mpr ⟨List.mem_range.mpr hi, a⟩
    rw [e] at this
    cases this
theorem EndsOk.asc {n : Nat} {es : List Nat} (eo : EndsOk n es) : es.Pairwise (· < ·) := by
  rw [eo.eq]
  exact List.Pairwise.filter _ List.pairwise_lt_range
end Dh
namespace WW
open PySem PySem.Spec L2 PySem.W Dh
section
variable {N D P g : Nat} {h : RHouse} {c es : List Nat} {s : Sto}
theorem w_ends {n : Nat} {s : Sto} {m : Nat} (h1 : 1 ≤ n) (h9 : n ≤ 9) (v : Vs (m + 2 * n + 1) s) : WF f_law_ends [.s, .d (.int (n : Int))] s fun r s' => ∃ es : List Nat, r = .d (.tuple (es.map iN)) ∧ EndsOk n es ∧ Vs m s' := by
  refine WF.body rfl ?_
  simp [m_law_ends, List.replicate_succ]
  refine WF.use (w_parts h1 h9 v) ?_
  rintro _ s1 ⟨ns, rfl, hl, hb, hp, v1⟩
  simp [range1_nat (n := n) (by omega)]
  refine WLc_opt (fun i : Nat => PyData.int (i : Nat)) (fun i => if decide (0 < ns.getD i 0) = true then some (iN i) else none) (List.range n) (fun i hi => ?_) ?_
  · rw [List.mem_range] at hi
    have e1 : atI (ns.map iN) (i : Int) = some (iN (ns.getD i 0)) := atI_mapD 0 (by omega)
    simp [e1, iN, gGt, -List.getD_eq_getElem?_getD]
    by_cases q : 0 < ns.getD i 0
    · simp [q, iN, -List.getD_eq_getElem?_getD]
    · simp [q, -List.getD_eq_getElem?_getD]
  rw [filterMap_if]
  refine ⟨szle (by rw [List.length_map]; exact Nat.le_trans (List.length_filter_le _ _) (by rw [List.length_range]; omega)), ?_⟩
  simp [-List.getD_eq_getElem?_getD]
  refine ⟨_, rfl, drawn_ends ?_, v1⟩
  refine Classical.byContradiction fun z => ?_
  have all : ∀ k ∈ ns, k = 0 := fun k hk => by
    obtain ⟨i, hi, e⟩ := List.mem_iff_getElem.mp hk
    have e2 : ns.getD i 0 = k := by rw [List.getD_eq_getElem?_getD, List.getElem?_eq_getElem hi, e]; rfl
    refine Classical.byContradiction fun y => z ⟨i, by omega, ?_⟩
    rw [decide_eq_true_iff, e2]
    omega
  have := sum_le (b := 0) ns fun k hk => by rw [all k hk]; exact Nat.le_refl _
  omega
theorem e_wrong_goal (eo : EndsOk h.stands.length es) (hn : h.stands.length ≤ 9) : f_wrong_goal [.d (pHouse h), .d (.tuple (es.map iN))] s = some (.f [], s) := by
  have hl := ends_len eo
  have asc := eo.asc
  refine WF.eq (WF.body rfl ?_)
  simp [m_wrong_goal, List.replicate_succ]
  have en : numbered (es.map iN) = (List.range es.length).map fun i => PyData.tuple [.int (i : Nat), iN (es.getD i 0)] := by rw [map_range (d := 0) es iN, numbered_range]
  rw [en]
  refine WFor_inv (fun i : Nat => PyData.tuple [.int (i : Nat), iN (es.getD i 0)]) (List.range es.length) (fun t ρ s' => s' = s ∧ ∃ (x2 x3 : Option Cl), ρ = [some (.d (pHouse h)), some (.d (.tuple (es.map iN))), x2, x3]) ⟨rfl, none, none, rfl⟩ ?_ ?_
  · rintro t x ρ s' hx ⟨rfl, x2, x3, rfl⟩
    obtain ⟨rfl, ht⟩ := range_at hx
    have hm := eo.lt (List.mem_of_getElem? (getD_at (d := 0) ht))
    simp [pHouse, iN, hm, -List.getD_eq_getElem?_getD]
    by_cases q : x = 0
    · subst q
      rw [show decide ((0 : Nat) < 0) = false from rfl, IfK_false, IfK_false]
      simp [-List.getD_eq_getElem?_getD]
    · have e1 : atI (es.map iN) (((x - 1 : Nat) : Int)) = some (iN (es.getD (x - 1) 0)) := atI_mapD 0 (by omega)
      rw [show ((x - 1 : Nat) : Int) = (x : Int) - 1 by omega] at e1
      have lt : es.getD (x - 1) 0 < es.getD x 0 := by
        have := List.pairwise_iff_getElem.mp asc (x - 1) x (by omega) ht (by omega)
        rw [List.getD_eq_getElem?_getD, List.getD_eq_getElem?_getD, List.getElem?_eq_getElem ht, List.getElem?_eq_getElem (show x - 1 < es.length by omega)]
        exact this
      have q1 : 0 < x := by omega
      have q2 : ¬ ((es.getD x 0 : Nat) : Int) ≤ ((es.getD (x - 1) 0 : Nat) : Int) := by omega
      simp [q1, e1, q2, gLe, gMns, iN, -List.getD_eq_getElem?_getD]
  · rintro ρ s' ⟨rfl, x2, x3, rfl⟩
    simp
theorem e_check_goals (eo : EndsOk h.stands.length es) (hn : h.stands.length ≤ 9) : f_check_goals [.d (pHouse h), .d (.tuple (es.map iN))] s = some (.d .none, s) := by
  have ess := ends_small eo (by omega)
  refine WF.eq (WF.body rfl ?_)
  have ne : es.isEmpty = false := by
    cases h : es with
    | nil => exact absurd h eo.ne
    | cons _ _ => rfl
  simp [m_check_goals, List.replicate_succ, eo.ne, ne]
  have e := fEq_nums (c := es) (d := []) (neg := false) ess.tup (by decide)
  rw [show ([] : List Nat).map iN = [] from rfl] at e
  try simp [e, eo.ne]
  refine WF.of (e_wrong_goal eo hn) ?_
  simp
  exact WFor_nil (by simp)
theorem e_mean_behind {B i k : Nat} {v : Nat → Rat} (ok : HouseOk N D P h g) (hN : N ≤ 9) (hi : i < h.stands.length) (hk : k < (h.stands.getD i []).length) (hv : ∀ i, i < h.stands.length → QLt B (v i)) (hB : B ≤ 400) :
    f_mean_behind [.d (pHouse h), .d (.tuple (rowL h.stands.length v)), .d (.int (i : Int)), .d (.int (k : Int))] s = some (.d (pQ (ahead ((h.stands.getD i []).getD k d0).ch v)), s) := by
  have hn := ok.nN
  have hd := ((ok.each _ (stand_mem hi)).2.2 _ (List.mem_of_getElem? (getD_at (d := d0) hk))).ch
  have hl := hd.len
  have e1 := atI_stand hi
  have e2 := atI_deed hk
  generalize (h.stands.getD i []).getD k d0 = d at *
  refine WF.eq (WF.body rfl ?_)
  simp [m_mean_behind, List.replicate_succ, pHouse, e1, pStand, e2, pDeed, -List.getD_eq_getElem?_getD]
  refine WLc_map pCh (fun c => pQ (c.2 * v c.1)) _ (fun x hx => ?_) ?_
  · have h3 := hd.each x hx
    have e3 := atI_row (w := h.stands.length) (f := v) h3.1
    simp [pCh, e3]
    exact WF.of (e_times (h3.2.2.bd) ((hv _ h3.1).bd)) (by simp)
  refine ⟨szle (by rw [List.length_map]; omega), ?_⟩
  have et := e_total (x := .list (d.ch.map fun c => pQ (c.2 * v c.1))) (l := d.ch.map fun c => c.2 * v c.1) (k := 10 + B) (s := s) (by simp) (fun q hq => by
    obtain ⟨c, hc, rfl⟩ := List.mem_map.mp hq
    have h3 := hd.each c hc
    exact QLt_mul h3.2.2 (hv _ h3.1)) (by rw [List.length_map]; have := Nat.mul_le_mul_left (10 + B + 1) (show d.ch.length ≤ 9 by omega); omega)
  simp
  exact WF.of et (by simp [ahead])
theorem e_better_deed {B i c0 : Nat} {v : Nat → Rat} (ok : HouseOk N D P h g) (hN : N ≤ 9) (hD : D ≤ 9) (hi : i < h.stands.length) (hv : ∀ i, i < h.stands.length → QLt B (v i)) (hB : B ≤ 400) (hB0 : 10 ≤ B) :
    f_better_deed [.d (pHouse h), .d (.tuple (rowL h.stands.length v)), .d (.int (i : Int)), .d (.int (c0 : Int))] s = some (.d (.int (((betF (h.stands.getD i []) v (v i) c0 (h.stands.getD i []).length).1 : Nat) : Int)), s) := by
  have hn := ok.nN
  have hst := ok.each _ (stand_mem hi)
  have e1 := atI_stand hi
  have e3 := atI_row (w := h.stands.length) (f := v) hi
  have ab : ∀ k, k < (h.stands.getD i []).length → QLt (1 + (10 + B + 1) * 9) (ahead ((h.stands.getD i []).getD k d0).ch v) := fun k hk => by
    have hd := ((ok.each _ (stand_mem hi)).2.2 _ (List.mem_of_getElem? (getD_at (d := d0) hk))).ch
    have hl := hd.len
    refine (qsum_lt (k := 10 + B) fun q hq => ?_).mono (by rw [List.length_map]; have := Nat.mul_le_mul_left (10 + B + 1) (show (((h.stands.getD i []).getD k d0).ch).length ≤ 9 by omega); omega)
    obtain ⟨c, hc, rfl⟩ := List.mem_map.mp hq
    have h3 := hd.each c hc
    exact QLt_mul h3.2.2 (hv _ h3.1)
  have bb : ∀ k, k ≤ (h.stands.getD i []).length → QLt (1 + (10 + B + 1) * 9) (betF (h.stands.getD i []) v (v i) c0 k).2 := fun k hk => by
    rcases (betF_ok (ds := h.stands.getD i []) (v := v) (x := v i) (c0 := c0) k).2.2 with e | ⟨a, b, _⟩
    · rw [e]; exact (hv i hi).mono (by omega)
    · rw [b]; exact ab _ (by omega)
  refine WF.eq (WF.body rfl ?_)
  simp [m_better_deed, List.replicate_succ, pHouse, e1, e3, pStand, -List.getD_eq_getElem?_getD]
  rw [show range1 [.d (.int ((h.stands.getD i []).length : Int))] = _ from range1_nat (by omega)]
  simp [-List.getD_eq_getElem?_getD]
  refine WFor_inv (fun k : Nat => PyData.int k) (List.range (h.stands.getD i []).length) (fun k ρ s' => s' = s ∧ ∃ (x6 x7 : Option Cl), ρ = [some (.d (pHouse h)), some (.d (.tuple (rowL h.stands.length v))), some (.d (.int (i : Int))), some (.d (.int (c0 : Int))), some (.d (.int (((betF (h.stands.getD i []) v (v i) c0 k).1 : Nat) : Int))), some (.d (pQ (betF (h.stands.getD i []) v (v i) c0 k).2)), x6, x7]) ⟨rfl, none, none, rfl⟩ ?_ ?_
  · rintro k x ρ s' hx ⟨rfl, x6, x7, rfl⟩
    obtain ⟨rfl, hk⟩ := range_at hx
    simp [-List.getD_eq_getElem?_getD]
    refine WF.of (e_mean_behind ok hN hi hk hv hB) ?_
    simp [-List.getD_eq_getElem?_getD]
    refine WF.of (e_is_less ((bb x (by omega)).bd (by omega)) ((ab x hk).bd (by omega))) ?_
    by_cases q : (betF (h.stands.getD i []) v (v i) c0 x).2 < ahead ((h.stands.getD i []).getD x d0).ch v
    · simp [q, betF, -List.getD_eq_getElem?_getD]
    · simp [q, betF, -List.getD_eq_getElem?_getD]
  · rintro ρ s' ⟨rfl, x6, x7, rfl⟩
    rw [List.length_range]
    simp [-List.getD_eq_getElem?_getD]
theorem ChoiceOk.sm (ok : HouseOk N D P h g) (hN : N ≤ 9) (hD : D ≤ 9) (hc : ChoiceOk h c) : Sm c := ⟨fun k hk => by have := hc.each ok k hk; omega, by have := hc.1; have := ok.nN; omega⟩
theorem e_greatest_by (ok : HouseOk N D P h g) (hN : N ≤ 9) (hD : D ≤ 9) (eo : EndsOk h.stands.length es) : ∃ c, ChoiceOk h c ∧ nextC h es c = c ∧ f_greatest_by [.d (pHouse h), .d (.tuple (es.map iN))] s = some (.d (.tuple [.tuple (rowL h.stands.length (cv h es c)), .tuple (c.map iN)]), s) := by
  have hn := ok.nN
  have hn1 := ok.n1
  have ess := ends_small eo (by omega)
  have h0 : ChoiceOk h (List.replicate h.stands.length 0) := ⟨by simp, fun i st k hst hk => by
    have hi : i < h.stands.length := (List.getElem?_eq_some_iff.mp hst).1
    rw [List.getElem?_replicate, if_pos hi] at hk
    cases hk
    exact (ok.each st (List.mem_of_getElem? hst)).1⟩
  -- one round
  have round : ∀ (c : List Nat) (x2 x4 x5 x6 : Option Cl) (Q : Out → Ev → Sto → Prop) s, ChoiceOk h c → (∀ x5 x6, Q .nx [some (.d (pHouse h)), some (.d (.tuple (es.map iN))), some (.d (.tuple (c.map iN))), some (.d (.tuple ((nextC h es c).map iN))), some (.d (.tuple (rowL h.stands.length (cv h es c)))), x5, x6] s) →
      WS (mSeq (mSet 2 (mVar 3))
    (mSeq (mSet 4 (mCall f_coming_by (maCons (mVar 0) (maCons (mVar 1) (maCons (mVar 2) maNil)))))
    (mSet 3 (mA fTupOf (maCons (mLc (mArgI enum1 (maCons (mVar 2) maNil)) [5, 6] (gT 2 (gsCons (gN 5) (gsCons (gN 6) gsNil))) mYes (mIf (bT (m2 (fIn false) (mVar 5) (mVar 1))) (mVar 6) (mCall f_better_deed (maCons (mVar 0) (maCons (mVar 4) (maCons (mVar 5) (maCons (mVar 6) maNil))))))) maNil)))))
      [some (.d (pHouse h)), some (.d (.tuple (es.map iN))), x2, some (.d (.tuple (c.map iN))), x4, x5, x6] s Q := by
    intro c x2 x4 x5 x6 Q s hc hq
    simp
    refine WF.of (e_coming_by ok hN hc eo) ?_
    have en : numbered (c.map iN) = (List.range h.stands.length).map fun i => PyData.tuple [.int (i : Nat), iN (c.getD i 0)] := by rw [map_range (d := 0) c iN, hc.1, numbered_range]
    simp
    rw [en]
    refine WLc_map (fun i : Nat => PyData.tuple [.int (i : Nat), iN (c.getD i 0)]) (fun i => iN (betC h es c i)) (List.range h.stands.length) (fun i hi => ?_) ?_
    · rw [List.mem_range] at hi
      simp [iN, fIn_t ess, -List.getD_eq_getElem?_getD, -List.contains_eq_mem]
      unfold betC
      by_cases q : es.contains i = true
      · simp [q, iN, -List.getD_eq_getElem?_getD, -List.contains_eq_mem]
      · rw [Bool.not_eq_true] at q
        simp [q, iN, -List.getD_eq_getElem?_getD, -List.contains_eq_mem]
        have q' : ¬ i ∈ es := by simpa using q
        exact WF.of (e_better_deed (B := 180) (v := cv h es c) ok hN hD hi (fun i _ => cv_lt ok hN hc eo i) (by decide) (by decide)) (by simp [q', -List.getD_eq_getElem?_getD])
    refine ⟨szle (by simp; omega), ?_⟩
    have := hq
    simp
    have e2 : (nextC h es c).map iN = (List.range h.stands.length).map fun i => iN (betC h es c i) := by unfold nextC; rw [List.map_map]; rfl
    rw [e2] at this
    exact this _ _
  have key : WF f_greatest_by [.d (pHouse h), .d (.tuple (es.map iN))] s fun r s' => s' = s ∧ ∃ c, ChoiceOk h c ∧ nextC h es c = c ∧ r = .d (.tuple [.tuple (rowL h.stands.length (cv h es c)), .tuple (c.map iN)]) := by
    refine WF.body rfl ?_
    simp [m_greatest_by, List.replicate_succ, pHouse]
    rw [fMul_rep (by omega) (by omega)]
    rw [show List.replicate h.stands.length (PyData.int 0) = (List.replicate h.stands.length 0).map iN by simp [iN]]
    have e0 : List.replicate h.stands.length (0 : Nat) ≠ [] := fun e => by
      have : (List.replicate h.stands.length (0 : Nat)).length = 0 := by rw [e]; rfl
      rw [List.length_replicate] at this
      omega
    generalize List.replicate h.stands.length (0 : Nat) = c0 at *
    simp [sz1]
    refine WWh_next ?_
    have e := fEq_nums (c := c0) (d := []) (neg := true) (ChoiceOk.sm ok hN hD h0).tup (by decide)
    rw [show ([] : List Nat).map iN = [] from rfl] at e
    rw [wt_bT]
    simp only [wx_m2, wx_var, getC_0, getC_s, WO_some, rdCl]
    rw [e]
    simp only [WO_some, boolK_b, e0, decide_false, Bool.not_false, if_true, IfK_true]
    refine round c0 _ _ _ _ _ _ h0 fun x5 x6 => ?_
    rw [loopK_nx]
    refine WWh_inv (fun n ρ s' => s' = s ∧ ∃ c x5 x6, ρ = [some (.d (pHouse h)), some (.d (.tuple (es.map iN))), some (.d (.tuple (c.map iN))), some (.d (.tuple ((nextC h es c).map iN))), some (.d (.tuple (rowL h.stands.length (cv h es c)))), x5, x6] ∧ ChoiceOk h c ∧ muF h (fS h es) c = n) (muF h (fS h es) c0) ⟨rfl, c0, x5, x6, rfl, h0, rfl⟩ ?_
    rintro n ρ s' ⟨rfl, c, x5, x6, rfl, hc, rfl⟩
    have ht := nextC_ok (es := es) ok hc
    have e := fEq_nums (c := nextC h es c) (d := c) (neg := true) (ChoiceOk.sm ok hN hD ht).tup (ChoiceOk.sm ok hN hD hc).tup
    rw [wt_bT]
    simp only [wx_m2, wx_var, getC_0, getC_s, WO_some, rdCl]
    rw [e]
    by_cases q : nextC h es c = c
    · simp [q, sz2]
      exact ⟨c, hc, q, rfl, rfl⟩
    · simp only [WO_some, boolK_b, q, decide_false, Bool.not_false, if_true, IfK_true]
      refine round (nextC h es c) _ _ _ _ _ _ ht fun x5 x6 => ?_
      rw [loopK_nx]
      exact ⟨_, next_mu ok hc eo q, rfl, nextC h es c, x5, x6, rfl, ht, rfl⟩
  obtain ⟨r, s', e, rfl, c, hc, hf, rfl⟩ := key
  exact ⟨c, hc, hf, e⟩
theorem e_greatest_coming (ok : HouseOk N D P h g) (hN : N ≤ 8) (hD : D ≤ 4) (hp : h.pays ≤ 4) (eo : EndsOk h.stands.length es) : ∃ c, ChoiceOk h c ∧ nextC h es c = c ∧ f_greatest_coming [.d (pHouse h), .d (.tuple (es.map iN))] s = some (.d (.tuple [.tuple (rowL h.stands.length (cv h es c)), .tuple (c.map iN)]), s) := by
  obtain ⟨c, hc, hf, e⟩ := e_greatest_by (s := s) ok (by omega) (by omega) eo
  have hn := ok.nN
  refine ⟨c, hc, hf, WF.eq (WF.body rfl ?_)⟩
  simp [m_greatest_coming]
  refine WF.of (e_check_house ok (by omega) (by omega) (by omega)) ?_
  simp
  refine WF.of (e_check_goals eo (by omega)) ?_
  simp
  exact WF.of e (by simp)
end
end WW
namespace WW
open PySem PySem.Spec L2 PySem.W Dh
section
variable {N D P g : Nat} {h : RHouse} {c es : List Nat} {s : Sto}
theorem e_lcoming_c (ok : HouseOk N D P h g) (hN : N ≤ 9) (hD : D ≤ 9) (hP : P ≤ 9) (hc : ChoiceOk h c) (eo : EndsOk h.stands.length es) :
    f_law_coming [.d (pHouse h), .d (.tuple (es.map iN)), .d (pPlan (planOf h c))] s = some (.d (.tuple (rowL h.stands.length (cv h es c))), s) :=
  e_lcoming (M := chM h c) (o := 1) (K := 180) (ok.wd hN hD hP) (fun i l hi _ => Mv_choice hc hi l) (chM_sto ok hc) (planOf_ok hc) (by decide) eo (.inl rfl) (chM_com ok hN hc eo) (by decide)
theorem HouseOk.to4 (ok : HouseOk N D P h g) (hN : N ≤ 4) (hD : D ≤ 3) : HouseOk 4 3 P h g :=
  ⟨ok.s0, ok.s1, ok.sb, ok.p1, ok.pP, ok.n1, by have := ok.nN; omega, fun st hst => by
    obtain ⟨a, b, c⟩ := ok.each st hst
    exact ⟨a, by omega, c⟩⟩
end
end WW
namespace Dh
open PySem PySem.Spec L2 PySem.W
/-- whether a deed stays in a lot -/
def stayD (W : Nat → Bool) (d : RDeed) : Bool := d.ch.all fun c => W c.1
def stayS (W : Nat → Bool) (st : List RDeed) : Bool := st.any (stayD W)
def lotT (h : RHouse) (es : List Nat) : Nat → Nat → Bool
  | 0, i => !es.contains i
  | t + 1, i => lotT h es t i && stayS (lotT h es t) (h.stands.getD i [])
def lot (h : RHouse) (es : List Nat) (i : Nat) : Bool := lotT h es h.stands.length i
section
variable {N D P g : Nat} {h : RHouse} {c es : List Nat}
theorem stayD_congr {n : Nat} {V W : Nat → Bool} {d : RDeed} (hd : ∀ x ∈ d.ch, x.1 < n) (e : ∀ i, i < n → V i = W i) : stayD V d = stayD W d := by
  unfold stayD
  rw [Bool.eq_iff_iff, List.all_eq_true, List.all_eq_true]
  exact ⟨fun a x hx => by rw [← e _ (hd x hx)]; exact a x hx, fun a x hx => by rw [e _ (hd x hx)]; exact a x hx⟩
theorem stayS_congr {n : Nat} {V W : Nat → Bool} {st : List RDeed} (hd : ∀ d ∈ st, ∀ x ∈ d.ch, x.1 < n) (e : ∀ i, i < n → V i = W i) : stayS V st = stayS W st := by
  unfold stayS
  rw [Bool.eq_iff_iff, List.any_eq_true, List.any_eq_true]
  exact ⟨fun ⟨d, a, b⟩ => ⟨d, a, by rw [← stayD_congr (hd d a) e]; exact b⟩, fun ⟨d, a, b⟩ => ⟨d, a, by rw [stayD_congr (hd d a) e]; exact b⟩⟩
theorem stand_lt (ok : HouseOk N D P h g) {i : Nat} (hi : i < h.stands.length) : ∀ d ∈ h.stands.getD i [], ∀ x ∈ d.ch, x.1 < h.stands.length := fun d hd x hx => (((ok.each _ (stand_mem hi)).2.2 d hd).ch.each x hx).1
theorem lotT_down {t i : Nat} (h1 : lotT h es (t + 1) i = true) : lotT h es t i = true := by
  unfold lotT at h1
  rw [Bool.and_eq_true] at h1
  exact h1.1
theorem lotT_anti {s t i : Nat} (hst : s ≤ t) (a : lotT h es t i = true) : lotT h es s i = true := by
  induction t with
  | zero => rw [show s = 0 by omega]; exact a
  | succ t ih =>
    by_cases e : s = t + 1
    · rw [e]; exact a
    · exact ih (by omega) (lotT_down a)
def LStill (h : RHouse) (es : List Nat) (s : Nat) : Prop := ∀ i, i < h.stands.length → lotT h es (s + 1) i = lotT h es s i
theorem lstill_on (ok : HouseOk N D P h g) {s : Nat} (a : LStill h es s) : LStill h es (s + 1) := fun i hi => by
  show (lotT h es (s + 1) i && stayS (lotT h es (s + 1)) (h.stands.getD i [])) = _
  rw [a i hi, stayS_congr (stand_lt ok hi) a]
  exact a i hi
theorem lstill_late (ok : HouseOk N D P h g) {s t : Nat} (a : LStill h es s) (k : s ≤ t) : LStill h es t := by
  induction t with
  | zero => rw [show (0 : Nat) = s by omega]; exact a
  | succ t ih =>
    by_cases e : s = t + 1
    · rw [← e]; exact a
    · exact lstill_on ok (ih (by omega))
theorem lstill_n (ok : HouseOk N D P h g) : LStill h es h.stands.length := by
  have key : ∀ t, (∃ s, s ≤ t ∧ LStill h es s) ∨ (List.range h.stands.length).countP (lotT h es t) + t ≤ h.stands.length := fun t => by
    induction t with
    | zero =>
      have := List.countP_le_length (p := lotT h es 0) (l := List.range h.stands.length)
      rw [List.length_range] at this
      exact .inr (by omega)
    | succ t ih =>
      rcases ih with ⟨s, hs, a⟩ | a
      · exact .inl ⟨s, by omega, a⟩
      · by_cases q : LStill h es t
        · exact .inl ⟨t, by omega, q⟩
        · refine .inr ?_
          have : ∃ i, i < h.stands.length ∧ lotT h es (t + 1) i ≠ lotT h es t i := Classical.byContradiction fun z => q fun i hi => Classical.byContradiction fun y => z ⟨i, hi, y⟩
          obtain ⟨i, hi, b⟩ := this
          have b2 : lotT h es (t + 1) i = false := by
            cases e : lotT h es (t + 1) i with
            | false => rfl
            | true => rw [e, lotT_down e] at b; exact absurd rfl b
          have b3 : lotT h es t i = true := by
            cases e : lotT h es t i with
            | true => rfl
            | false => rw [e, b2] at b; exact absurd rfl b
          have := countP_lt (p := lotT h es (t + 1)) (q := lotT h es t) (l := List.range h.stands.length) (fun x hx => lotT_down hx) ⟨i, List.mem_range.mpr hi, b3, b2⟩
          omega
  rcases key h.stands.length with ⟨s, hs, a⟩ | a
  · exact lstill_late ok a hs
  · have z : (List.range h.stands.length).countP (lotT h es h.stands.length) = 0 := by omega
    rw [List.countP_eq_zero] at z
    exact fun i hi => by
      have f := z i (List.mem_range.mpr hi)
      rw [Bool.not_eq_true] at f
      rw [f]
      cases e : lotT h es (h.stands.length + 1) i with
      | false => rfl
      | true => rw [lotT_down e] at f; cases f
/-- the lot has no goals, and each of its stands a deed that stays in it -/
theorem lot_no (hi : lot h es i = true) : i ∉ es := fun a => by
  have := lotT_anti (Nat.zero_le _) hi
  unfold lotT at this
  rw [Bool.not_eq_true', ← Bool.not_eq_true, List.contains_iff_mem] at this
  exact this a
theorem lot_stay (ok : HouseOk N D P h g) {i : Nat} (hi : i < h.stands.length) (a : lot h es i = true) : stayS (lot h es) (h.stands.getD i []) = true := by
  have := lstill_n (es := es) ok i hi
  unfold lot at a ⊢
  rw [a] at this
  unfold lotT at this
  rw [Bool.and_eq_true] at this
  exact this.2
/-- the lot is the greatest -/
theorem lot_top {S : Nat → Prop} (h0 : ∀ i, S i → i ∉ es) (h1 : ∀ i, i < h.stands.length → S i → ∃ d ∈ h.stands.getD i [], ∀ x ∈ d.ch, x.1 < h.stands.length ∧ S x.1) {i : Nat} (hi : i < h.stands.length) (a : S i) : lot h es i = true := by
  have key : ∀ t i, i < h.stands.length → S i → lotT h es t i = true := fun t => by
    induction t with
    | zero =>
      intro i _ a
      unfold lotT
      rw [Bool.not_eq_true', ← Bool.not_eq_true, List.contains_iff_mem]
      exact h0 i a
    | succ t ih =>
      intro i hi a
      unfold lotT
      rw [Bool.and_eq_true]
      refine ⟨ih i hi a, ?_⟩
      obtain ⟨d, hd, b⟩ := h1 i hi a
      unfold stayS
      rw [List.any_eq_true]
      refine ⟨d, hd, ?_⟩
      unfold stayD
      rw [List.all_eq_true]
      exact fun x hx => ih _ (b x hx).1 (b x hx).2
  exact key _ i hi a
theorem lot_of_still (ok : HouseOk N D P h g) {t : Nat} (a : LStill h es t) : ∀ i, i < h.stands.length → lotT h es t i = lot h es i := fun i hi => by
  rw [Bool.eq_iff_iff]
  constructor
  · intro b
    refine lot_top (S := fun i => i < h.stands.length ∧ lotT h es t i = true) (fun i c z => ?_) (fun i hi c => ?_) hi ⟨hi, b⟩
    · have := lotT_anti (Nat.zero_le _) c.2
      unfold lotT at this
      rw [Bool.not_eq_true', ← Bool.not_eq_true, List.contains_iff_mem] at this
      exact this z
    · have := a i hi
      rw [c.2] at this
      unfold lotT at this
      rw [Bool.and_eq_true] at this
      obtain ⟨d, hd, e⟩ := List.any_eq_true.mp this.2
      refine ⟨d, hd, fun x hx => ?_⟩
      have hx' := stand_lt ok hi d hd x hx
      exact ⟨hx', hx', List.all_eq_true.mp e x hx⟩
  · intro b
    by_cases e : t ≤ h.stands.length
    · exact lotT_anti e b
    · have key : ∀ k, lotT h es (h.stands.length + k) i = lot h es i := fun k => by
        induction k with
        | zero => rfl
        | succ k ih => rw [← Nat.add_assoc, lstill_late ok (lstill_n ok) (Nat.le_add_right _ k) i hi, ih]
      have := key (t - h.stands.length)
      rw [show h.stands.length + (t - h.stands.length) = t by omega] at this
      rw [this]; exact b
/-- the first deed that stays in a lot -/
def firstStay (W : Nat → Bool) (st : List RDeed) : List Nat := ((List.range st.length).filter fun k => stayD W (st.getD k d0)).take 1
theorem firstStay_nil {W : Nat → Bool} {st : List RDeed} : firstStay W st = [] ↔ stayS W st = false := by
  unfold firstStay
  rw [← Bool.not_eq_true]
  unfold stayS
  rw [List.any_eq_true]
  constructor
  · rintro e ⟨d, hd, a⟩
    obtain ⟨k, hk, ek⟩ := List.mem_iff_getElem.mp hd
    have : k ∈ (List.range st.length).filter fun k => stayD W (st.getD k d0) := by
      rw [List.mem_filter, List.mem_range]
      refine ⟨hk, ?_⟩
      rw [List.getD_eq_getElem?_getD, List.getElem?_eq_getElem hk, ek]; exact a
    cases q : (List.range st.length).filter fun k => stayD W (st.getD k d0) with
    | nil => rw [q] at this; cases this
    | cons x xs => rw [q] at e; cases e
  · intro a
    cases q : (List.range st.length).filter fun k => stayD W (st.getD k d0) with
    | nil => rfl
    | cons x xs =>
      have : x ∈ (List.range st.length).filter fun k => stayD W (st.getD k d0) := by rw [q]; exact List.mem_cons_self
      rw [List.mem_filter, List.mem_range] at this
      exact absurd ⟨_, List.mem_of_getElem? (getD_at this.1), this.2⟩ a
def heldD (W : Nat → Bool) (st : List RDeed) : Nat := (firstStay W st).getD 0 0
theorem firstStay_one {W : Nat → Bool} {st : List RDeed} (a : stayS W st = true) : firstStay W st = [heldD W st] ∧ heldD W st < st.length ∧ stayD W (st.getD (heldD W st) d0) = true := by
  have ne : firstStay W st ≠ [] := fun e => by rw [firstStay_nil, a] at e; cases e
  have hl : (firstStay W st).length ≤ 1 := by unfold firstStay; rw [List.length_take]; omega
  cases q : firstStay W st with
  | nil => exact absurd q ne
  | cons x xs =>
    rw [q] at hl
    have : xs = [] := by cases xs with | nil => rfl | cons y ys => simp at hl
    subst this
    have hx : heldD W st = x := by unfold heldD; rw [q]; rfl
    have hm : x ∈ firstStay W st := by rw [q]; exact List.mem_cons_self
    unfold firstStay at hm
    have := mem_take hm
    rw [List.mem_filter, List.mem_range] at this
    rw [hx]
    exact ⟨rfl, this.1, this.2⟩
/-- the deed that worse_deed tells, and what it brings -/
def worF (ds : List RDeed) (v : Nat → Rat) (x : Rat) (c0 : Nat) : Nat → Nat × Rat
  | 0 => (c0, x)
  | k + 1 => if ahead (ds.getD k d0).ch v < (worF ds v x c0 k).2 then (k, ahead (ds.getD k d0).ch v) else worF ds v x c0 k
theorem worF_ok {ds : List RDeed} {v : Nat → Rat} {x : Rat} {c0 : Nat} : ∀ k, (worF ds v x c0 k).2 ≤ x ∧ (∀ j, j < k → (worF ds v x c0 k).2 ≤ ahead (ds.getD j d0).ch v) ∧
    (worF ds v x c0 k = (c0, x) ∨ ((worF ds v x c0 k).1 < k ∧ (worF ds v x c0 k).2 = ahead (ds.getD (worF ds v x c0 k).1 d0).ch v ∧ (worF ds v x c0 k).2 < x))
  | 0 => ⟨Rat.le_refl, fun j hj => by omega, .inl rfl⟩
  | k + 1 => by
    obtain ⟨a, b, c⟩ := worF_ok (ds := ds) (v := v) (x := x) (c0 := c0) k
    unfold worF
    by_cases q : ahead (ds.getD k d0).ch v < (worF ds v x c0 k).2
    · rw [if_pos q]
      refine ⟨by dsimp only; grind, fun j hj => ?_, .inr ⟨by dsimp only; omega, rfl, by dsimp only; grind⟩⟩
      dsimp only
      by_cases e : j = k
      · subst e; exact Rat.le_refl
      · have := b j (by omega); grind
    · rw [if_neg q]
      refine ⟨a, fun j hj => ?_, ?_⟩
      · by_cases e : j = k
        · subst e; grind
        · exact b j (by omega)
      · rcases c with c | ⟨c1, c2, c3⟩
        · exact .inl c
        · exact .inr ⟨by omega, c2, c3⟩
def worC (h : RHouse) (es c : List Nat) (i : Nat) : Nat := if (es.contains i || lot h es i) = true then c.getD i 0 else (worF (h.stands.getD i []) (cv h es c) (cv h es c i) (c.getD i 0) (h.stands.getD i []).length).1
def lessC (h : RHouse) (es c : List Nat) : List Nat := (List.range h.stands.length).map (worC h es c)
theorem lessC_at {i : Nat} (hi : i < h.stands.length) : (lessC h es c).getD i 0 = worC h es c i := by
  unfold lessC
  rw [List.getD_eq_getElem?_getD, List.getElem?_map, List.getElem?_range hi]; rfl
theorem worC_lt (hc : ChoiceOk h c) {i : Nat} (hi : i < h.stands.length) : worC h es c i < (h.stands.getD i []).length := by
  unfold worC
  by_cases q : (es.contains i || lot h es i) = true
  · rw [if_pos q]; exact hc.lt hi
  · rw [if_neg q]
    rcases (worF_ok (ds := h.stands.getD i []) (v := cv h es c) (x := cv h es c i) (c0 := c.getD i 0) (h.stands.getD i []).length).2.2 with e | ⟨a, _, _⟩
    · rw [e]; exact hc.lt hi
    · exact a
theorem lessC_ok (hc : ChoiceOk h c) : ChoiceOk h (lessC h es c) := choice_of fun i hi => worC_lt hc hi
/-- a choice that holds the lot -/
structure HoldOk (h : RHouse) (es c : List Nat) : Prop where
  ok : ChoiceOk h c
  held : ∀ i, i < h.stands.length → lot h es i = true → stayD (lot h es) (dd h c i) = true
theorem lessC_held (hk : HoldOk h es c) : HoldOk h es (lessC h es c) := ⟨lessC_ok hk.ok, fun i hi a => by
  have : (lessC h es c).getD i 0 = c.getD i 0 := by
    rw [lessC_at hi]
    unfold worC
    rw [if_pos (by rw [a, Bool.or_true])]
  have b := hk.held i hi a
  unfold dd at b ⊢
  rw [this]
  exact b⟩
theorem held_0 (ok : HouseOk N D P h g) (eo : EndsOk h.stands.length es) (hk : HoldOk h es c) {i : Nat} (hi : i < h.stands.length) (a : lot h es i = true) : cv h es c i = 0 := by
  unfold cv
  refine com_out (rc_closed (S := fun i => lot h es i = true) (fun i hi a => lot_no a hi) (fun i l hi hl a p => ?_) hi a)
  obtain ⟨x, hx, rfl⟩ := (chF_pos (dd_ok ok hk.ok hi).ch).mp p
  exact List.all_eq_true.mp (hk.held i hi a) x hx
theorem less_H (ok : HouseOk N D P h g) (hc : ChoiceOk h c) : ∀ i, i < h.stands.length → i ∉ es → ((lessC h es c).getD i 0 = c.getD i 0 ∧ ∀ l, l < h.stands.length → chM h (lessC h es c) i l = chM h c i l) ∨ (El.sm h.stands.length fun l => chM h (lessC h es c) i l * com h.stands.length (chM h c) es l) < com h.stands.length (chM h c) es i := fun i hi he => by
  by_cases q : (es.contains i || lot h es i) = true
  · have e : (lessC h es c).getD i 0 = c.getD i 0 := by
      rw [lessC_at hi]
      unfold worC
      rw [if_pos q]
    refine .inl ⟨e, fun l _ => ?_⟩
    unfold chM dd
    rw [e]
  · have e1 : (lessC h es c).getD i 0 = (worF (h.stands.getD i []) (cv h es c) (cv h es c i) (c.getD i 0) (h.stands.getD i []).length).1 := by
      rw [lessC_at hi]
      unfold worC
      rw [if_neg q]
    rcases (worF_ok (ds := h.stands.getD i []) (v := cv h es c) (x := cv h es c i) (c0 := c.getD i 0) (h.stands.getD i []).length).2.2 with e | ⟨a, b, d⟩
    · refine .inl ⟨by rw [e1, e], fun l _ => ?_⟩
      unfold chM dd
      rw [e1, e]
    · refine .inr ?_
      rw [chM_ahead ok (lessC_ok hc) hi]
      unfold dd
      rw [e1]
      show ahead _ (cv h es c) < cv h es c i
      rw [← b]
      exact d
theorem less_fix (ok : HouseOk N D P h g) (hc : ChoiceOk h c) (eo : EndsOk h.stands.length es) (hf : lessC h es c = c) : ∀ i, i < h.stands.length → i ∉ es → lot h es i = false → ∀ d ∈ h.stands.getD i [], cv h es c i ≤ ahead d.ch (cv h es c) := fun i hi he hl d hd => by
  have hq : es.contains i = false := by rw [← Bool.not_eq_true, List.contains_iff_mem]; exact he
  have e1 : (lessC h es c).getD i 0 = (worF (h.stands.getD i []) (cv h es c) (cv h es c i) (c.getD i 0) (h.stands.getD i []).length).1 := by
    rw [lessC_at hi]
    unfold worC
    rw [hq, hl]; rfl
  rw [hf] at e1
  obtain ⟨a, b, e⟩ := worF_ok (ds := h.stands.getD i []) (v := cv h es c) (x := cv h es c i) (c0 := c.getD i 0) (h.stands.getD i []).length
  have top : (worF (h.stands.getD i []) (cv h es c) (cv h es c i) (c.getD i 0) (h.stands.getD i []).length).2 = cv h es c i := by
    rcases e with e | ⟨_, e2, e3⟩
    · rw [e]
    · rw [← e1] at e2
      have := cv_eq ok hc eo hi he
      unfold dd at this
      rw [← this] at e2
      exact e2
  obtain ⟨k, hk, ek⟩ := List.mem_iff_getElem.mp hd
  have ed : (h.stands.getD i []).getD k d0 = d := by rw [List.getD_eq_getElem?_getD, List.getElem?_eq_getElem hk, ek]; rfl
  have := b k hk
  rw [ed, top] at this
  exact this
theorem less_mu (ok : HouseOk N D P h g) (hc : ChoiceOk h c) (eo : EndsOk h.stands.length es) (hne : lessC h es c ≠ c) : muF h (fun c => - fS h es c) (lessC h es c) < muF h (fun c => - fS h es c) c := by
  have hn := lessC_ok (es := es) hc
  have H := less_H (es := es) ok hc
  have st := chM_sto ok hc
  have st' := chM_sto ok hn
  have step : ∀ i, i < h.stands.length → i ∉ es → (El.sm h.stands.length fun l => chM h (lessC h es c) i l * com h.stands.length (chM h c) es l) ≤ com h.stands.length (chM h c) es i := fun i hi he => by
    rcases H i hi he with a | a
    · rw [El.sm_congr (g := fun l => chM h c i l * com h.stands.length (chM h c) es l) fun l hl => by rw [a.2 l hl], ← com_eq st eo hi he]
      exact Rat.le_refl
    · exact Rat.le_of_lt a
  have dn : ∀ i, i < h.stands.length → com h.stands.length (chM h (lessC h es c)) es i ≤ com h.stands.length (chM h c) es i := fun i hi =>
    com_le st' eo (fun i hi => com_nonneg st eo hi) (fun i hi => by rw [com_end hi]; exact Rat.le_refl) step hi
  refine muF_lt hn ?_
  have ex : ∃ i, i < h.stands.length ∧ i ∉ es ∧ (El.sm h.stands.length fun l => chM h (lessC h es c) i l * com h.stands.length (chM h c) es l) < com h.stands.length (chM h c) es i := Classical.byContradiction fun z => hne (by
    apply List.ext_getElem?
    intro i
    by_cases hi : i < h.stands.length
    · rw [getD_at (d := 0) (by rw [hn.1]; exact hi), getD_at (d := 0) (by rw [hc.1]; exact hi)]
      congr 1
      by_cases he : i ∈ es
      · rw [lessC_at hi]
        unfold worC
        rw [if_pos (by rw [show es.contains i = true by rw [List.contains_iff_mem]; exact he, Bool.true_or])]
      · rcases H i hi he with a | a
        · exact a.1
        · exact absurd ⟨i, hi, he, a⟩ z
    · rw [List.getElem?_eq_none (by rw [hn.1]; omega), List.getElem?_eq_none (by rw [hc.1]; omega)])
  obtain ⟨i, hi, he, a⟩ := ex
  have b : com h.stands.length (chM h (lessC h es c)) es i < com h.stands.length (chM h c) es i := by
    rw [com_eq st' eo hi he]
    have : El.sm h.stands.length (fun l => chM h (lessC h es c) i l * com h.stands.length (chM h (lessC h es c)) es l) ≤ El.sm h.stands.length (fun l => chM h (lessC h es c) i l * com h.stands.length (chM h c) es l) := El.sm_le fun l hl => Rat.mul_le_mul_of_nonneg_left (dn l hl) (st'.nn i l hi hl)
    grind
  have le : ∀ l, l < h.stands.length → 0 ≤ cv h es c l - cv h es (lessC h es c) l := fun l hl => by
    have := dn l hl
    unfold cv
    grind
  have s1 := El.sm_sub (n := h.stands.length) (f := cv h es c) (g := cv h es (lessC h es c))
  have s2 : El.sm h.stands.length (fun j => if j = i then cv h es c i - cv h es (lessC h es c) i else 0) ≤ El.sm h.stands.length (fun l => cv h es c l - cv h es (lessC h es c) l) := El.sm_le fun j hj => by
    by_cases e : j = i
    · subst e; rw [if_pos rfl]; exact Rat.le_refl
    · rw [if_neg e]; exact le j hj
  rw [El.sm_one hi fun j _ hj => by rw [if_neg hj], if_pos rfl] at s2
  unfold fS
  have b' : cv h es (lessC h es c) i < cv h es c i := b
  grind
/-- what no plan can be below: numbers that are 0 in the lot and that no deed worsens -/
theorem below_com {n : Nat} {M : Nat → Nat → Rat} {v : Nat → Rat} (st : Sto1 n M) (eo : EndsOk n es) (v1 : ∀ i ∈ es, v i ≤ 1) {W : Nat → Bool} (v0 : ∀ i, i < n → W i = true → v i ≤ 0) (h1 : ∀ i, i < n → i ∉ es → W i = false → v i ≤ El.sm n (fun l => M i l * v l))
    (h2 : ∀ i, i < n → rc n M es i = false → W i = true) {i : Nat} (hi : i < n) : v i ≤ com n M es i :=
  le_com st eo v1 (fun i hi he p => h1 i hi he (by
    cases e : W i with
    | false => rfl
    | true => have := v0 i hi e; grind)) (fun i hi a => v0 i hi (h2 i hi a)) hi
theorem lot_of_rc (ok : HouseOk N D P h g) (hc : ChoiceOk h c) {i : Nat} (hi : i < h.stands.length) (a : rc h.stands.length (chM h c) es i = false) : lot h es i = true := by
  refine lot_top (S := fun i => i < h.stands.length ∧ rc h.stands.length (chM h c) es i = false) (fun i b z => by rw [rc_end z] at b; cases b.2) (fun i hi b => ⟨dd h c i, List.mem_of_getElem? (getD_at (hc.lt hi)), fun x hx => ?_⟩) hi ⟨hi, a⟩
  have hx' := ((dd_ok ok hc hi).ch.each x hx).1
  refine ⟨hx', hx', ?_⟩
  cases e : rc h.stands.length (chM h c) es x.1 with
  | false => rfl
  | true => rw [rc_step hi hx' e ((chF_pos (dd_ok ok hc hi).ch).mpr ⟨x, hx, rfl⟩)] at b; cases b.2
theorem cv_low (ok : HouseOk N D P h g) (hk : HoldOk h es c) (eo : EndsOk h.stands.length es) (hf : lessC h es c = c) {e : List Nat} (he : ChoiceOk h e) {i : Nat} (hi : i < h.stands.length) : cv h es c i ≤ cv h es e i :=
  below_com (chM_sto ok he) eo (v := cv h es c) (W := lot h es) (fun i hi => by unfold cv; rw [com_end hi]; exact Rat.le_refl) (fun i hi a => by rw [held_0 ok eo hk hi a]; exact Rat.le_refl) (fun i hi hn hl => by
    rw [chM_ahead ok he hi]
    exact less_fix ok hk.ok eo hf i hi hn hl _ (List.mem_of_getElem? (getD_at (he.lt hi)))) (fun i hi a => lot_of_rc ok he hi a) hi
end
end Dh
namespace Dh
open PySem PySem.Spec L2 PySem.W
theorem fLrg_nat {n : Nat} (h : n ≤ 1000) : fLrg (.d (.int (n : Int))) = some (.f ((List.range n).map iN)) := by
  show (if -(2 ^ 62) ≤ (n : Int) ∧ (n : Int) ≤ 2 ^ 24 then some (R.f (rangeL 0 (n : Int).toNat)) else none) = _
  rw [if_pos ⟨by omega, by omega⟩]
  unfold rangeL
  rw [Int.toNat_natCast]
  congr 2
  exact List.map_congr_left fun i _ => by simp [iN]
theorem cut1 (xs : List PyData) : cutD xs none (some 1) = xs.take 1 := by
  unfold cutD
  rw [HT.sIx_none, show HT.sIx xs.length xs.length (some 1) = min 1 xs.length from HT.sIx_nat xs.length xs.length 1, List.drop_zero, Nat.sub_zero]
  by_cases h : 1 ≤ xs.length
  · rw [Nat.min_eq_left h]
  · rw [Nat.min_eq_right (by omega), List.take_of_length_le (by omega), List.take_of_length_le (by omega)]
theorem eqv_lists {c d : List Nat} : PyData.eqv (.list (c.map iN)) (.list (d.map iN)) = decide (c = d) := by
  rw [show PyData.eqv (.list (c.map iN)) (.list (d.map iN)) = PyData.eqvAll (c.map iN) (d.map iN) by simp only [PyData.eqv], eqvAll_iN]
theorem fEq_bd {c d : List Nat} {neg : Bool} (h1 : Sm c) (h2 : Sm d) : fEq neg (.b (c.map iN)) (.d (.list (d.map iN))) = some (.d (.bool (if neg then !decide (c = d) else decide (c = d)))) := by
  show (if eqOk (.list (c.map iN)) = true ∧ eqOk (.list (d.map iN)) = true then some (R.d (.bool (if neg then !PyData.eqv (.list (c.map iN)) (.list (d.map iN)) else PyData.eqv (.list (c.map iN)) (.list (d.map iN))))) else none) = _
  rw [if_pos ⟨h1.lst, h2.lst⟩, eqv_lists]
theorem fEq_ff {c d : List Nat} {neg : Bool} (h1 : Sm c) (h2 : Sm d) : fEq neg (.f (c.map iN)) (.f (d.map iN)) = some (.d (.bool (if neg then !decide (c = d) else decide (c = d)))) := by
  show (if eqOk (.list (c.map iN)) = true ∧ eqOk (.list (d.map iN)) = true then some (R.d (.bool (if neg then !PyData.eqv (.list (c.map iN)) (.list (d.map iN)) else PyData.eqv (.list (c.map iN)) (.list (d.map iN))))) else none) = _
  rw [if_pos ⟨h1.lst, h2.lst⟩, eqv_lists]
theorem find_nat {f : Nat → Nat} {i : Nat} : ∀ L : List Nat, ((L.map fun k => (PyData.int (k : Nat), iN (f k))).find? fun p => kEq p.1 (.inl (i : Int))).map (·.2) = if L.contains i = true then some (iN (f i)) else none
  | [] => rfl
  | k :: L => by
    rw [List.map_cons, List.find?_cons]
    by_cases e : k = i
    · subst e
      have q : kEq (PyData.int (k : Nat)) (.inl (k : Int)) = true := by simp [kEq]
      simp only [q]
      simp
    · have q : kEq (PyData.int (k : Nat)) (.inl (i : Int)) = false := by simp [kEq]; omega
      simp only [q]
      rw [find_nat L, List.contains_cons]
      have : (i == k) = false := by simp; omega
      rw [this, Bool.false_or]
theorem fGet_nat {f : Nat → Nat} {L : List Nat} {i : Nat} : fGet (.d (dOf (L.map fun k : Nat => ((Sum.inl (k : Int) : Key), iN (f k))))) (.d (.int (i : Nat))) (.d (.int 0)) = some (.d (iN (if L.contains i = true then f i else 0))) := by
  have e : dOf (L.map fun k : Nat => ((Sum.inl (k : Int) : Key), iN (f k))) = .dict (L.map fun k => (PyData.int (k : Nat), iN (f k))) := by
    unfold dOf
    rw [List.map_map]
    rfl
  rw [e]
  show some (R.d ((((L.map fun k => (PyData.int (k : Nat), iN (f k))).find? fun p => kEq p.1 (.inl (i : Int))).map (·.2)).getD (.int 0))) = _
  rw [find_nat]
  by_cases q : L.contains i = true
  · rw [if_pos q, if_pos q]; rfl
  · rw [if_neg q, if_neg q]; rfl
def LoT (h : RHouse) (es : List Nat) (t : Nat) : List Nat := (List.range h.stands.length).filter (lotT h es t)
def lotL (h : RHouse) (es : List Nat) : List Nat := (List.range h.stands.length).filter (lot h es)
section
variable {N D P g : Nat} {h : RHouse} {c es : List Nat}
theorem filt_has {n i : Nat} {p : Nat → Bool} (hi : i < n) : ((List.range n).filter p).contains i = p i := by
  rw [Bool.eq_iff_iff, List.contains_iff_mem, List.mem_filter, List.mem_range]
  exact ⟨fun h => h.2, fun h => ⟨hi, h⟩⟩
theorem filt_len {n : Nat} {p : Nat → Bool} : ((List.range n).filter p).length ≤ n := by
  have := List.length_filter_le p (List.range n)
  rwa [List.length_range] at this
theorem filt_sm {n : Nat} {p : Nat → Bool} (hn : n ≤ 100) : Sm ((List.range n).filter p) := Sm.of hn (fun k hk => List.mem_range.mp (List.mem_filter.mp hk).1) filt_len
theorem LT_succ (ok : HouseOk N D P h g) {t : Nat} : LoT h es (t + 1) = (LoT h es t).filter fun i => stayS (fun l => (LoT h es t).contains l) (h.stands.getD i []) := by
  unfold LoT
  rw [List.filter_filter]
  refine List.filter_congr fun i hi => ?_
  have hi := List.mem_range.mp hi
  have e : stayS (fun l => ((List.range h.stands.length).filter (lotT h es t)).contains l) (h.stands.getD i []) = stayS (lotT h es t) (h.stands.getD i []) := stayS_congr (stand_lt ok hi) fun i hi => filt_has hi
  rw [e, Bool.and_comm]
  rfl
theorem LT_still {t : Nat} (e : LoT h es (t + 1) = LoT h es t) : LStill h es t := fun i hi => by
  have a := filt_has (p := lotT h es (t + 1)) hi
  have b := filt_has (p := lotT h es t) hi
  unfold LoT at e
  rw [← a, ← b, e]
theorem LT_less {t : Nat} (e : LoT h es (t + 1) ≠ LoT h es t) : (LoT h es (t + 1)).length < (LoT h es t).length := by
  have : ∃ i, i < h.stands.length ∧ lotT h es (t + 1) i ≠ lotT h es t i := Classical.byContradiction fun z => e (by
    unfold LoT
    exact List.filter_congr fun i hi => Classical.byContradiction fun y => z ⟨i, List.mem_range.mp hi, y⟩)
  obtain ⟨i, hi, b⟩ := this
  have b2 : lotT h es (t + 1) i = false := by
    cases q : lotT h es (t + 1) i with
    | false => rfl
    | true => rw [q, lotT_down q] at b; exact absurd rfl b
  have b3 : lotT h es t i = true := by
    cases q : lotT h es t i with
    | true => rfl
    | false => rw [q, b2] at b; exact absurd rfl b
  have := countP_lt (p := lotT h es (t + 1)) (q := lotT h es t) (l := List.range h.stands.length) (fun x hx => lotT_down hx) ⟨i, List.mem_range.mpr hi, b3, b2⟩
  unfold LoT
  rw [← List.countP_eq_length_filter, ← List.countP_eq_length_filter]
  exact this
theorem LT_lot (ok : HouseOk N D P h g) {t : Nat} (e : LoT h es (t + 1) = LoT h es t) : LoT h es t = lotL h es := by
  unfold LoT lotL
  exact List.filter_congr fun i hi => lot_of_still ok (LT_still e) i (List.mem_range.mp hi)
/-- the choice at the beginning -/
def lowC0 (h : RHouse) (es : List Nat) : List Nat := (List.range h.stands.length).map fun i => if (lotL h es).contains i = true then heldD (fun l => (lotL h es).contains l) (h.stands.getD i []) else 0
theorem lowC0_ok (ok : HouseOk N D P h g) : HoldOk h es (lowC0 h es) := by
  have key : ∀ i, i < h.stands.length → lot h es i = true → heldD (fun l => (lotL h es).contains l) (h.stands.getD i []) < (h.stands.getD i []).length ∧ stayD (lot h es) ((h.stands.getD i []).getD (heldD (fun l => (lotL h es).contains l) (h.stands.getD i [])) d0) = true := fun i hi a => by
    have s := lot_stay ok hi a
    have e : stayS (fun l => (lotL h es).contains l) (h.stands.getD i []) = stayS (lot h es) (h.stands.getD i []) := stayS_congr (stand_lt ok hi) fun i hi => filt_has hi
    rw [← e] at s
    obtain ⟨_, s2, s3⟩ := firstStay_one s
    refine ⟨s2, ?_⟩
    rw [← stayD_congr (stand_lt ok hi _ (List.mem_of_getElem? (getD_at s2))) fun i hi => filt_has (p := lot h es) hi]
    exact s3
  have at_ : ∀ i, i < h.stands.length → (lowC0 h es).getD i 0 = if (lotL h es).contains i = true then heldD (fun l => (lotL h es).contains l) (h.stands.getD i []) else 0 := fun i hi => by
    unfold lowC0
    rw [List.getD_eq_getElem?_getD, List.getElem?_map, List.getElem?_range hi]; rfl
  refine ⟨choice_of fun i hi => ?_, fun i hi a => ?_⟩
  · by_cases q : (lotL h es).contains i = true
    · rw [if_pos q]
      exact (key i hi (by rw [← filt_has (p := lot h es) hi]; exact q)).1
    · rw [if_neg q]
      exact (ok.each _ (stand_mem hi)).1
  · unfold dd
    rw [at_ i hi, if_pos (by rw [show (lotL h es).contains i = lot h es i from filt_has hi]; exact a)]
    exact (key i hi a).2
end
end Dh
namespace WW
open PySem PySem.Spec L2 PySem.W Dh
section
variable {N D P g : Nat} {h : RHouse} {c es : List Nat} {s : Sto}
theorem e_range_of (ok : HouseOk N D P h g) (hD : D ≤ 9) {i : Nat} (hi : i < h.stands.length) : f_range_of [.d (pHouse h), .d (.int (i : Int))] s = some (.f ((List.range (h.stands.getD i []).length).map iN), s) := by
  have hst := ok.each _ (stand_mem hi)
  have e1 := atI_stand hi
  refine WF.eq (WF.body rfl ?_)
  simp [m_range_of, List.replicate_succ, pHouse, e1, pStand, fLrg_nat (show (h.stands.getD i []).length ≤ 1000 by omega), -List.getD_eq_getElem?_getD]
theorem e_staying_deed (ok : HouseOk N D P h g) (hN : N ≤ 9) (hD : D ≤ 9) {L : List Nat} (hL : Sm L) {i : Nat} (hi : i < h.stands.length) :
    f_staying_deed [.d (pHouse h), .d (.list (L.map iN)), .d (.int (i : Int))] s = some (.f ((firstStay (fun l => L.contains l) (h.stands.getD i [])).map iN), s) := by
  have hn := ok.nN
  have hst := ok.each _ (stand_mem hi)
  refine WF.eq (WF.body rfl ?_)
  simp [m_staying_deed, List.replicate_succ]
  refine WF.of (e_range_of ok hD hi) ?_
  simp [frzs, frz1, -List.getD_eq_getElem?_getD]
  refine WLc_opt iN (fun k => if stayD (fun l => L.contains l) ((h.stands.getD i []).getD k d0) = true then some (iN k) else none) (List.range (h.stands.getD i []).length) (fun k hk => ?_) ?_
  · rw [List.mem_range] at hk
    have hd := (hst.2.2 _ (List.mem_of_getElem? (getD_at (d := d0) hk))).ch
    simp [iN, -List.getD_eq_getElem?_getD]
    refine WF.of (e_led_to ok hN hi hk) ?_
    unfold stayD
    generalize (h.stands.getD i []).getD k d0 = d at *
    simp [-List.getD_eq_getElem?_getD]
    refine WLc_map (fun x : Nat × Rat => iN x.1) (fun x => PyData.bool (L.contains x.1)) d.ch (fun x hx => ?_) ?_
    · simp [iN, fIn_l hL, -List.contains_eq_mem]
    refine ⟨szle (by rw [List.length_map]; have := hd.len; omega), ?_⟩
    have fa : fAll [.f (d.ch.map fun x => PyData.bool (L.contains x.1))] = some (.d (.bool (d.ch.all fun x => L.contains x.1))) := fAll_of
    simp [fa, -List.contains_eq_mem, -List.all_eq_true]
    by_cases q : (d.ch.all fun x => L.contains x.1) = true
    · rw [q]; simp [iN]
    · rw [Bool.not_eq_true] at q
      rw [q]; simp
  rw [filterMap_if]
  refine ⟨szle (by rw [List.length_map]; have := filt_len (n := (h.stands.getD i []).length) (p := fun k => stayD (fun l => L.contains l) ((h.stands.getD i []).getD k d0)); omega), ?_⟩
  simp [fSl, cut1, firstStay, List.map_take, -List.getD_eq_getElem?_getD, -List.contains_eq_mem]
theorem w_stayC (ok : HouseOk N D P h g) (hN : N ≤ 9) (hD : D ≤ 9) {t : Nat} {x1 x3 x4 : Option Cl} {Q : List PyData → Sto → Prop} (q : Q ((LoT h es (t + 1)).map iN) s) :
    WLc [4] (gN 4) (bT (m2 (fEq true) (mCall f_staying_deed (maCons (mVar 0) (maCons (mVar 2) (maCons (mVar 4) maNil)))) (mA fLst maNil))) (mVar 4) ((LoT h es t).map iN) [some (.d (pHouse h)), x1, some (.d (.list ((LoT h es t).map iN))), x3, x4] s Q := by
  have hn := ok.nN
  have sm : Sm (LoT h es t) := filt_sm (by omega)
  rw [LT_succ ok] at q
  have lt : ∀ i ∈ LoT h es t, i < h.stands.length := fun i hi => List.mem_range.mp (List.mem_filter.mp hi).1
  generalize LoT h es t = L at *
  refine WLc_opt iN (fun i => if stayS (fun l => L.contains l) (h.stands.getD i []) = true then some (iN i) else none) L (fun i hi => ?_) (by rw [filterMap_if]; exact q)
  have hi' := lt i hi
  simp [iN, -List.getD_eq_getElem?_getD]
  refine WF.of (e_staying_deed ok hN hD sm hi') ?_
  have fs : Sm (firstStay (fun l => L.contains l) (h.stands.getD i [])) := by
    have hst := ok.each _ (stand_mem hi')
    refine Sm.of (n := 9) (by decide) (fun k hk => ?_) (by unfold firstStay; rw [List.length_take]; omega)
    unfold firstStay at hk
    have := mem_take hk
    rw [List.mem_filter, List.mem_range] at this
    omega
  have e := fEq_ff (c := firstStay (fun l => L.contains l) (h.stands.getD i [])) (d := []) (neg := true) fs ⟨by simp, by simp⟩
  rw [show ([] : List Nat).map iN = [] from rfl] at e
  simp [e, -List.getD_eq_getElem?_getD, -List.contains_eq_mem]
  by_cases z : stayS (fun l => L.contains l) (h.stands.getD i []) = true
  · have ne : firstStay (fun l => L.contains l) (h.stands.getD i []) ≠ [] := fun y => by rw [firstStay_nil, z] at y; cases y
    simp [z, ne, iN, -List.getD_eq_getElem?_getD, -List.contains_eq_mem]
  · rw [Bool.not_eq_true] at z
    have ye := firstStay_nil.mpr z
    simp [z, ye, -List.getD_eq_getElem?_getD, -List.contains_eq_mem]
theorem e_staying (ok : HouseOk N D P h g) (hN : N ≤ 9) (hD : D ≤ 9) (eo : EndsOk h.stands.length es) :
    f_staying [.d (pHouse h), .d (.tuple (es.map iN))] s = some (.d (.list ((lotL h es).map iN)), s) := by
  have hn := ok.nN
  have ess := ends_small eo (by omega)
  refine WF.eq (WF.body rfl ?_)
  simp [m_staying, List.replicate_succ, pHouse, range1_nat (n := h.stands.length) (by omega)]
  refine WLc_opt (fun i : Nat => PyData.int (i : Nat)) (fun i => if lotT h es 0 i = true then some (iN i) else none) (List.range h.stands.length) (fun i hi => ?_) ?_
  · simp [fIn_t ess, -List.contains_eq_mem]
    by_cases q : es.contains i = true
    · simp [lotT, q, -List.contains_eq_mem]
    · rw [Bool.not_eq_true] at q
      simp [lotT, q, iN, -List.contains_eq_mem]
  rw [filterMap_if, show (List.range h.stands.length).filter (fun x => lotT h es 0 x) = LoT h es 0 from rfl]
  have ll : ∀ t, (LoT h es t).length ≤ h.stands.length := fun t => filt_len
  refine ⟨szle (by rw [List.length_map]; have := ll 0; omega), ?_⟩
  simp [frzs, frz1]
  refine w_stayC ok hN hD ?_
  refine ⟨szle (by rw [List.length_map]; have := ll (0 + 1); omega), ?_⟩
  simp
  refine WWh_inv (fun m ρ s' => s' = s ∧ ∃ (t : Nat) (x4 : Option Cl), ρ = [some (.d (pHouse h)), some (.d (.tuple (es.map iN))), some (.d (.list ((LoT h es t).map iN))), some (.o ((LoT h es (t + 1)).map iN)), x4] ∧ (LoT h es t).length = m) (LoT h es 0).length ⟨rfl, 0, none, rfl, rfl⟩ ?_
  rintro m ρ s' ⟨rfl, t, x4, rfl, rfl⟩
  have e := fEq_bd (c := LoT h es (t + 1)) (d := LoT h es t) (neg := true) (filt_sm (by omega)) (filt_sm (by omega))
  rw [wt_bT]
  simp only [wx_m2, wx_var, getC_0, getC_s, WO_some, rdCl]
  rw [e]
  by_cases q : LoT h es (t + 1) = LoT h es t
  · simp [q]
    rw [LT_lot ok q]
  · simp only [WO_some, boolK_b, q, decide_false, Bool.not_false, if_true, IfK_true]
    simp [frzs, frz1]
    refine w_stayC ok hN hD ?_
    refine ⟨szle (by rw [List.length_map]; have := ll (t + 1 + 1); omega), ?_⟩
    simp
    exact ⟨_, LT_less q, t + 1, ⟨rfl, rfl⟩, rfl⟩
theorem e_worse_deed {B i c0 : Nat} {v : Nat → Rat} (ok : HouseOk N D P h g) (hN : N ≤ 9) (hD : D ≤ 9) (hi : i < h.stands.length) (hv : ∀ i, i < h.stands.length → QLt B (v i)) (hB : B ≤ 400) (hB0 : 10 ≤ B) :
    f_worse_deed [.d (pHouse h), .d (.tuple (rowL h.stands.length v)), .d (.int (i : Int)), .d (.int (c0 : Int))] s = some (.d (.int (((worF (h.stands.getD i []) v (v i) c0 (h.stands.getD i []).length).1 : Nat) : Int)), s) := by
  have hn := ok.nN
  have hst := ok.each _ (stand_mem hi)
  have e1 := atI_stand hi
  have e3 := atI_row (w := h.stands.length) (f := v) hi
  have ab : ∀ k, k < (h.stands.getD i []).length → QLt (1 + (10 + B + 1) * 9) (ahead ((h.stands.getD i []).getD k d0).ch v) := fun k hk => by
    have hd := ((ok.each _ (stand_mem hi)).2.2 _ (List.mem_of_getElem? (getD_at (d := d0) hk))).ch
    have hl := hd.len
    refine (qsum_lt (k := 10 + B) fun q hq => ?_).mono (by rw [List.length_map]; have := Nat.mul_le_mul_left (10 + B + 1) (show (((h.stands.getD i []).getD k d0).ch).length ≤ 9 by omega); omega)
    obtain ⟨c, hc, rfl⟩ := List.mem_map.mp hq
    have h3 := hd.each c hc
    exact QLt_mul h3.2.2 (hv _ h3.1)
  have bb : ∀ k, k ≤ (h.stands.getD i []).length → QLt (1 + (10 + B + 1) * 9) (worF (h.stands.getD i []) v (v i) c0 k).2 := fun k hk => by
    rcases (worF_ok (ds := h.stands.getD i []) (v := v) (x := v i) (c0 := c0) k).2.2 with e | ⟨a, b, _⟩
    · rw [e]; exact (hv i hi).mono (by omega)
    · rw [b]; exact ab _ (by omega)
  refine WF.eq (WF.body rfl ?_)
  simp [m_worse_deed, List.replicate_succ, e3, -List.getD_eq_getElem?_getD]
  refine WF.of (e_range_of ok hD hi) ?_
  simp [-List.getD_eq_getElem?_getD]
  refine WFor_inv iN (List.range (h.stands.getD i []).length) (fun k ρ s' => s' = s ∧ ∃ (x6 x7 : Option Cl), ρ = [some (.d (pHouse h)), some (.d (.tuple (rowL h.stands.length v))), some (.d (.int (i : Int))), some (.d (.int (c0 : Int))), some (.d (.int (((worF (h.stands.getD i []) v (v i) c0 k).1 : Nat) : Int))), some (.d (pQ (worF (h.stands.getD i []) v (v i) c0 k).2)), x6, x7]) ⟨rfl, none, none, rfl⟩ ?_ ?_
  · rintro k x ρ s' hx ⟨rfl, x6, x7, rfl⟩
    obtain ⟨rfl, hk⟩ := range_at hx
    simp [iN, -List.getD_eq_getElem?_getD]
    refine WF.of (e_mean_behind ok hN hi hk hv hB) ?_
    simp [-List.getD_eq_getElem?_getD]
    refine WF.of (e_is_less ((ab x hk).bd (by omega)) ((bb x (by omega)).bd (by omega))) ?_
    by_cases q : ahead ((h.stands.getD i []).getD x d0).ch v < (worF (h.stands.getD i []) v (v i) c0 x).2
    · simp [q, worF, -List.getD_eq_getElem?_getD]
    · simp [q, worF, -List.getD_eq_getElem?_getD]
  · rintro ρ s' ⟨rfl, x6, x7, rfl⟩
    rw [List.length_range]
    simp [-List.getD_eq_getElem?_getD]
theorem e_least_by (ok : HouseOk N D P h g) (hN : N ≤ 9) (hD : D ≤ 9) (eo : EndsOk h.stands.length es) : ∃ c, HoldOk h es c ∧ lessC h es c = c ∧ f_least_by [.d (pHouse h), .d (.tuple (es.map iN))] s = some (.d (.tuple [.tuple (rowL h.stands.length (cv h es c)), .tuple (c.map iN)]), s) := by
  have hn := ok.nN
  have hn1 := ok.n1
  have ess := ends_small eo (by omega)
  have ls : Sm (lotL h es) := filt_sm (by omega)
  have lsl : (lotL h es).length ≤ h.stands.length := filt_len
  have lt : ∀ i ∈ lotL h es, i < h.stands.length := fun i hi => List.mem_range.mp (List.mem_filter.mp hi).1
  have h0 := lowC0_ok (es := es) ok
  -- one round
  have round : ∀ (c : List Nat) (x3 x4 x6 x7 x8 : Option Cl) (Q : Out → Ev → Sto → Prop) s, HoldOk h es c → (∀ x7 x8, Q .nx [some (.d (pHouse h)), some (.d (.tuple (es.map iN))), some (.d (.list ((lotL h es).map iN))), x3, some (.d (.tuple (c.map iN))), some (.d (.tuple ((lessC h es c).map iN))), some (.d (.tuple (rowL h.stands.length (cv h es c)))), x7, x8] s) →
      WS (mSeq (mSet 4 (mVar 5))
    (mSeq (mSet 6 (mCall f_coming_by (maCons (mVar 0) (maCons (mVar 1) (maCons (mVar 4) maNil)))))
    (mSet 5 (mA fTupOf (maCons (mLc (mArgI enum1 (maCons (mVar 4) maNil)) [7, 8] (gT 2 (gsCons (gN 7) (gsCons (gN 8) gsNil))) mYes (mIf (tOr2 (bT (m2 (fIn false) (mVar 7) (mVar 1))) (bT (m2 (fIn false) (mVar 7) (mVar 2)))) (mVar 8) (mCall f_worse_deed (maCons (mVar 0) (maCons (mVar 6) (maCons (mVar 7) (maCons (mVar 8) maNil))))))) maNil)))))
      [some (.d (pHouse h)), some (.d (.tuple (es.map iN))), some (.d (.list ((lotL h es).map iN))), x3, x4, some (.d (.tuple (c.map iN))), x6, x7, x8] s Q := by
    intro c x3 x4 x6 x7 x8 Q s hk hq
    have hc := hk.ok
    simp
    refine WF.of (e_coming_by ok hN hc eo) ?_
    have en : numbered (c.map iN) = (List.range h.stands.length).map fun i => PyData.tuple [.int (i : Nat), iN (c.getD i 0)] := by rw [map_range (d := 0) c iN, hc.1, numbered_range]
    simp
    rw [en]
    refine WLc_map (fun i : Nat => PyData.tuple [.int (i : Nat), iN (c.getD i 0)]) (fun i => iN (worC h es c i)) (List.range h.stands.length) (fun i hi => ?_) ?_
    · rw [List.mem_range] at hi
      have li : (lotL h es).contains i = lot h es i := filt_has hi
      simp [iN, fIn_t ess, fIn_l ls, -List.getD_eq_getElem?_getD, -List.contains_eq_mem]
      unfold worC
      by_cases q : es.contains i = true
      · simp [q, iN, -List.getD_eq_getElem?_getD, -List.contains_eq_mem]
      · rw [Bool.not_eq_true] at q
        by_cases q2 : lot h es i = true
        · simp [q, li, q2, iN, fIn_l ls, -List.getD_eq_getElem?_getD, -List.contains_eq_mem]
        · rw [Bool.not_eq_true] at q2
          simp [q, li, q2, iN, fIn_l ls, -List.getD_eq_getElem?_getD, -List.contains_eq_mem]
          have q' : ¬ i ∈ es := by simpa using q
          exact WF.of (e_worse_deed (B := 180) (v := cv h es c) ok hN hD hi (fun i _ => cv_lt ok hN hc eo i) (by decide) (by decide)) (by simp [q', q2, -List.getD_eq_getElem?_getD])
    refine ⟨szle (by simp; omega), ?_⟩
    have := hq
    simp
    have e2 : (lessC h es c).map iN = (List.range h.stands.length).map fun i => iN (worC h es c i) := by unfold lessC; rw [List.map_map]; rfl
    rw [e2] at this
    exact this _ _
  have key : WF f_least_by [.d (pHouse h), .d (.tuple (es.map iN))] s fun r s' => s' = s ∧ ∃ c, HoldOk h es c ∧ lessC h es c = c ∧ r = .d (.tuple [.tuple (rowL h.stands.length (cv h es c)), .tuple (c.map iN)]) := by
    refine WF.body rfl ?_
    simp [m_least_by, List.replicate_succ]
    refine WF.of (e_staying ok hN hD eo) ?_
    simp [frzs, frz1]
    refine WDc_new iN (fun i => Sum.inl (i : Int)) (fun i => iN (heldD (fun l => (lotL h es).contains l) (h.stands.getD i []))) (lotL h es) (szle (by omega)) ?_ (fun i hi => ?_) ?_
    · refine List.Pairwise.imp (R := (· < ·)) (fun hab z => by injection z; omega) ?_
      exact List.Pairwise.filter _ List.pairwise_lt_range
    · have hi' := lt i hi
      have hl : lot h es i = true := (List.mem_filter.mp hi).2
      have e : stayS (fun l => (lotL h es).contains l) (h.stands.getD i []) = stayS (lot h es) (h.stands.getD i []) := stayS_congr (stand_lt ok hi') fun i hi => filt_has hi
      have f1 := (firstStay_one (e.trans (lot_stay ok hi' hl))).1
      simp [iN, -List.getD_eq_getElem?_getD, -List.contains_eq_mem]
      refine ⟨rfl, ?_⟩
      refine WF.of (e_staying_deed ok hN hD ls hi') ?_
      rw [f1]
      simp [-List.getD_eq_getElem?_getD, -List.contains_eq_mem]
      rfl
    · simp [pHouse, range1_nat (n := h.stands.length) (by omega), -List.getD_eq_getElem?_getD, -List.contains_eq_mem]
      refine WLc_map (fun i : Nat => PyData.int (i : Nat)) (fun i => iN (if (lotL h es).contains i = true then heldD (fun l => (lotL h es).contains l) (h.stands.getD i []) else 0)) (List.range h.stands.length) (fun i hi => ?_) ?_
      · simp [fGet_nat (f := fun i => heldD (fun l => (lotL h es).contains l) (h.stands.getD i [])), -List.getD_eq_getElem?_getD, -List.contains_eq_mem]
      refine ⟨szle (by simp; omega), ?_⟩
      rw [show (List.range h.stands.length).map (fun i => iN (if (lotL h es).contains i = true then heldD (fun l => (lotL h es).contains l) (h.stands.getD i []) else 0)) = (lowC0 h es).map iN by unfold lowC0; rw [List.map_map]; rfl]
      have e0 : lowC0 h es ≠ [] := fun e => by
        have := h0.ok.1
        rw [e] at this
        simp at this
        omega
      generalize lowC0 h es = c0 at *
      simp [sz1, -List.getD_eq_getElem?_getD, -List.contains_eq_mem]
      refine WWh_next ?_
      have e := fEq_nums (c := c0) (d := []) (neg := true) (ChoiceOk.sm ok hN hD h0.ok).tup (by decide)
      rw [show ([] : List Nat).map iN = [] from rfl] at e
      rw [wt_bT]
      simp only [wx_m2, wx_var, getC_0, getC_s, WO_some, rdCl]
      rw [e]
      simp only [WO_some, boolK_b, e0, decide_false, Bool.not_false, if_true, IfK_true]
      refine round c0 _ _ _ _ _ _ _ h0 fun x7 x8 => ?_
      rw [loopK_nx]
      refine WWh_inv (fun n ρ s' => s' = s ∧ ∃ c x3 x7 x8, ρ = [some (.d (pHouse h)), some (.d (.tuple (es.map iN))), some (.d (.list ((lotL h es).map iN))), x3, some (.d (.tuple (c.map iN))), some (.d (.tuple ((lessC h es c).map iN))), some (.d (.tuple (rowL h.stands.length (cv h es c)))), x7, x8] ∧ HoldOk h es c ∧ muF h (fun c => - fS h es c) c = n) (muF h (fun c => - fS h es c) c0) ⟨rfl, c0, _, x7, x8, rfl, h0, rfl⟩ ?_
      rintro n ρ s' ⟨rfl, c, x3, x7, x8, rfl, hk, rfl⟩
      have hc := hk.ok
      have ht := lessC_held hk
      have e := fEq_nums (c := lessC h es c) (d := c) (neg := true) (ChoiceOk.sm ok hN hD ht.ok).tup (ChoiceOk.sm ok hN hD hc).tup
      rw [wt_bT]
      simp only [wx_m2, wx_var, getC_0, getC_s, WO_some, rdCl]
      rw [e]
      by_cases q : lessC h es c = c
      · simp [q, sz2]
        exact ⟨c, hk, q, rfl, rfl⟩
      · simp only [WO_some, boolK_b, q, decide_false, Bool.not_false, if_true, IfK_true]
        refine round (lessC h es c) _ _ _ _ _ _ _ ht fun x7 x8 => ?_
        rw [loopK_nx]
        exact ⟨_, less_mu ok hc eo q, rfl, lessC h es c, _, x7, x8, rfl, ht, rfl⟩
  obtain ⟨r, s', e, rfl, c, hc, hf, rfl⟩ := key
  exact ⟨c, hc, hf, e⟩
theorem e_least_coming (ok : HouseOk N D P h g) (hN : N ≤ 8) (hD : D ≤ 4) (hp : h.pays ≤ 4) (eo : EndsOk h.stands.length es) : ∃ c, HoldOk h es c ∧ lessC h es c = c ∧ f_least_coming [.d (pHouse h), .d (.tuple (es.map iN))] s = some (.d (.tuple [.tuple (rowL h.stands.length (cv h es c)), .tuple (c.map iN)]), s) := by
  obtain ⟨c, hc, hf, e⟩ := e_least_by (s := s) ok (by omega) (by omega) eo
  have hn := ok.nN
  refine ⟨c, hc, hf, WF.eq (WF.body rfl ?_)⟩
  simp [m_least_coming]
  refine WF.of (e_check_house ok (by omega) (by omega) (by omega)) ?_
  simp
  refine WF.of (e_check_goals eo (by omega)) ?_
  simp
  exact WF.of e (by simp)
end
end WW
namespace WW
open PySem PySem.Spec L2 PySem.W Dh
section
variable {P g : Nat} {h : RHouse} {c es : List Nat} {s : Sto}
theorem e_lhas_stay (ok : HouseOk 4 3 P h g) {L : List Nat} (hL : Sm L) {i : Nat} (hi : i < h.stands.length) : f_law_has_stay [.d (pStand (h.stands.getD i [])), .d (.list (L.map iN))] s = some (.d (.bool (stayS (fun l => L.contains l) (h.stands.getD i []))), s) := by
  have hn := ok.nN
  have hst := ok.each _ (stand_mem hi)
  generalize h.stands.getD i [] = st at *
  refine WF.eq (WF.body rfl ?_)
  simp [m_law_has_stay, List.replicate_succ, pStand]
  refine WLc_map pDeed (fun d => PyData.bool (stayD (fun l => L.contains l) d)) st (fun d hd => ?_) ?_
  · have hch := (hst.2.2 d hd).ch
    simp [pDeed]
    refine WLc_map pCh (fun x => PyData.bool (L.contains x.1)) d.ch (fun x hx => ?_) ?_
    · simp [pCh, fIn_l hL, -List.contains_eq_mem]
    refine ⟨szle (by rw [List.length_map]; have := hch.len; omega), ?_⟩
    have fa : fAll [.f (d.ch.map fun x => PyData.bool (L.contains x.1))] = some (.d (.bool (d.ch.all fun x => L.contains x.1))) := fAll_of
    simp [fa, stayD, -List.contains_eq_mem, -List.all_eq_true]
  refine ⟨szle (by rw [List.length_map]; omega), ?_⟩
  have fa : fAny [.f (st.map fun d => PyData.bool (stayD (fun l => L.contains l) d))] = some (.d (.bool (st.any fun d => stayD (fun l => L.contains l) d))) := fAny_of
  simp [fa, stayS, -List.contains_eq_mem, -List.any_eq_true]
theorem e_lnever (ok : HouseOk 4 3 P h g) (eo : EndsOk h.stands.length es) : f_law_never [.d (pHouse h), .d (.tuple (es.map iN))] s = some (.f ((lotL h es).map iN), s) := by
  have hn := ok.nN
  have ess := ends_small eo (by omega)
  have ll : ∀ t, (LoT h es t).length ≤ h.stands.length := fun t => filt_len
  have sm : ∀ t, Sm (LoT h es t) := fun t => filt_sm (by omega)
  refine WF.eq (WF.body rfl ?_)
  simp [m_law_never, List.replicate_succ, pHouse, range1_nat (n := h.stands.length) (by omega)]
  refine WLc_opt (fun i : Nat => PyData.int (i : Nat)) (fun i => if lotT h es 0 i = true then some (iN i) else none) (List.range h.stands.length) (fun i hi => ?_) ?_
  · simp [fIn_t ess, -List.contains_eq_mem]
    by_cases q : es.contains i = true
    · simp [lotT, q, -List.contains_eq_mem]
    · rw [Bool.not_eq_true] at q
      simp [lotT, q, iN, -List.contains_eq_mem]
  rw [filterMap_if, show (List.range h.stands.length).filter (fun x => lotT h es 0 x) = LoT h es 0 from rfl]
  refine ⟨szle (by rw [List.length_map]; have := ll 0; omega), ?_⟩
  simp [range1_nat (n := h.stands.length) (by omega)]
  refine WFor_inv (fun i : Nat => PyData.int i) (List.range h.stands.length) (fun t ρ s' => s' = s ∧ ∃ x3 x4, ρ = [some (.d (pHouse h)), some (.d (.tuple (es.map iN))), some (.o ((LoT h es t).map iN)), x3, x4]) ⟨rfl, none, none, rfl⟩ ?_ ?_
  · rintro t x ρ s' hx ⟨rfl, x3, x4, rfl⟩
    simp [frzs, frz1, pHouse, range1_nat (n := h.stands.length) (by omega)]
    refine WLc_opt (fun i : Nat => PyData.int (i : Nat)) (fun i => if ((LoT h es t).contains i && stayS (fun l => (LoT h es t).contains l) (h.stands.getD i [])) = true then some (iN i) else none) (List.range h.stands.length) (fun i hi => ?_) ?_
    · rw [List.mem_range] at hi
      have e1 := atI_stand hi
      simp [fIn_l (sm t), pHouse, e1, -List.contains_eq_mem, -List.getD_eq_getElem?_getD]
      by_cases q : (LoT h es t).contains i = true
      · simp [q, e1, -List.contains_eq_mem, -List.getD_eq_getElem?_getD]
        refine WF.of (e_lhas_stay ok (sm t) hi) ?_
        by_cases q2 : stayS (fun l => (LoT h es t).contains l) (h.stands.getD i []) = true
        · rw [q2]; simp [iN]; simpa using q
        · rw [Bool.not_eq_true] at q2
          rw [q2]; simp
      · rw [Bool.not_eq_true] at q
        simp [q, -List.contains_eq_mem, -List.getD_eq_getElem?_getD]
    rw [filterMap_if]
    have e : (List.range h.stands.length).filter (fun i => (LoT h es t).contains i && stayS (fun l => (LoT h es t).contains l) (h.stands.getD i [])) = LoT h es (t + 1) := by
      rw [LT_succ ok]
      unfold LoT
      rw [List.filter_filter]
      refine List.filter_congr fun i hi => ?_
      rw [filt_has (List.mem_range.mp hi), Bool.and_comm]
    rw [e]
    refine ⟨szle (by rw [List.length_map]; have := ll (t + 1); omega), ?_⟩
    simp
  · rintro ρ s' ⟨rfl, x3, x4, rfl⟩
    rw [List.length_range]
    simp
    rfl
end
end WW
namespace Dh
open PySem PySem.Spec L2
section
variable {ρ : Ev} {s : Sto} {i : Nat} {QS : Out → Ev → Sto → Prop} {Q : R → Sto → Prop} {a ix ma mb : Mx} {as : Ma}
@[simp] theorem ev_rdCl_m {acc : List (Key × PyData)} : rdCl (.m acc) = .n acc := rfl
@[simp] theorem ev_toArgD_n {acc : List (Key × PyData)} : toArgD (.n acc) = some (.d (dOf acc)) := rfl
@[simp] theorem ev_toArgD_d {x : PyData} : toArgD (.d x) = some (.d x) := rfl
@[simp] theorem ev_toArgD_s : toArgD .s = some .s := rfl
@[simp] theorem ev_toArgDs0 : toArgDs [] = some [] := rfl
@[simp] theorem ev_toArgDs1 {x : R} {rs : List R} : toArgDs (x :: rs) = (match toArgD x, toArgDs rs with | some x, some xs => some (x :: xs) | _, _ => none) := rfl
@[simp] theorem ev_fLenM {acc : List (Key × PyData)} : fLenM [.n acc] = some (.d (.int acc.length)) := rfl
@[simp] theorem ev_fIxM {acc : List (Key × PyData)} {k : Int} : fIxM (.n acc) (.d (.int k)) = (valP acc (.inl k)).map R.d := rfl
@[simp] theorem ev_fInM {acc : List (Key × PyData)} {k : Int} {neg : Bool} : fInM neg (.d (.int k)) (.n acc) = some (.d (.bool (if neg then !(valP acc (.inl k)).isSome else (valP acc (.inl k)).isSome))) := rfl
@[simp] theorem ev_frg0 : frgM [] = [] := rfl
@[simp] theorem ev_frgD {x : PyData} : frgM (some (.d x) :: ρ) = some (.d x) :: frgM ρ := rfl
@[simp] theorem ev_frgO {x : List PyData} : frgM (some (.o x) :: ρ) = some (.o x) :: frgM ρ := rfl
@[simp] theorem ev_frgS : frgM (some .s :: ρ) = some .s :: frgM ρ := rfl
@[simp] theorem ev_frgM {acc : List (Key × PyData)} : frgM (some (.m acc) :: ρ) = none :: frgM ρ := rfl
@[simp] theorem ev_frgN : frgM (none :: ρ) = none :: frgM ρ := rfl
def ownM (c : Cl) : Option (List (Key × PyData)) := match c with | .m acc => some acc | _ => none
@[simp] theorem ownM_m {acc : List (Key × PyData)} : ownM (.m acc) = some acc := rfl
@[simp] theorem keyP_i {k : Int} : keyP (.d (.int k)) = some (.inl k) := rfl
@[simp ↓] theorem ws_setDc {it : Mi} {vs : List Nat} {g : Gx} {t : Mt} {ek ev : Mx} : WS (mSetDc i it vs g t ek ev) ρ s QS = WI it ρ s fun xs s1 => WDc vs g t ek ev xs [] ρ s1 fun acc s2 => QS .nx (ρ.set i (some (.m acc))) s2 := by
  apply propext
  unfold WS WDc WI mSetDc
  rcases it ρ s with _ | ⟨xs, s1⟩
  · simp
  · dsimp only
    rcases h : dcRun vs g t ek ev xs [] ρ s1 with _ | ⟨acc, s2⟩ <;> simp [h]
@[simp ↓] theorem ws_putM : WS (mPutM i ix a) ρ s QS = WX a ρ s fun r s1 => WX ix ρ s1 fun rk s2 => WO (getC ρ i) fun c => WO (ownM c) fun acc => WO (keyP rk) fun k => WO (toD r) fun x => acc.length < sizeLine ∧ WO (some ((frgM ρ).set i (some (.m (putP acc k x))))) fun ρ1 => QS .nx ρ1 s2 := by
  apply propext
  unfold WS WX WO mPutM
  rcases a ρ s with _ | ⟨r, s1⟩
  · simp
  · dsimp only
    rcases hi : ix ρ s1 with _ | ⟨z, s2⟩
    · simp [hi]
    · constructor
      · rintro ⟨o, ρ', s', e, q⟩
        dsimp only at e
        split at e
        · rename_i acc k x e1 e2 e3
          split at e
          · rename_i hz
            cases e
            exact ⟨r, s1, rfl, z, s2, hi, _, getC_of e1, acc, rfl, k, e2, x, e3, hz, _, rfl, q⟩
          · cases e
        · cases e
      · rintro ⟨r', s1', h1, z', s2', h2, c, hc, acc, ha, k, hk, x, hx, hz, ρ1, hρ, q⟩
        cases h1
        rw [hi] at h2; cases h2
        cases hρ
        have g := of_getC hc
        cases c with
        | m acc' =>
          cases ha
          exact ⟨_, _, _, by simp only [g, hk, hx, if_pos hz], q⟩
        | d _ => cases ha
        | o _ => cases ha
        | s => cases ha
@[simp ↓] theorem wx_callD {g : Fx} : WX (mCallD g as) ρ s Q = WA as ρ s fun rs s1 => WO (toArgDs rs) fun cs => WF g cs s1 fun r s2 => ∃ x, r = .d x ∧ flatD x = true ∧ Q r s2 := by
  apply propext
  unfold WX WA WO WF mCallD
  rw [ev_bnd]
  rcases as ρ s with _ | ⟨x, s1⟩
  · simp
  · dsimp only
    rcases h : toArgDs x with _ | cs
    · simp [h]
    · dsimp only
      rcases hg : g cs s1 with _ | ⟨r, s2⟩
      · simp [h, hg]
      · constructor
        · rintro ⟨r', s', e, q⟩
          cases r with
          | d y =>
            dsimp only at e
            split at e
            · rename_i hf
              cases e
              exact ⟨x, s1, rfl, cs, h, _, _, hg, y, rfl, hf, q⟩
            · cases e
          | _ => cases e
        · rintro ⟨x', s1', h1, cs', h2, r', s', h3, y, e, hf, q⟩
          cases h1
          rw [h] at h2; cases h2
          rw [hg] at h3; cases h3
          subst e
          exact ⟨_, _, by dsimp only; rw [if_pos hf], q⟩
end
/-- what is under a key behind a store -/
theorem valP_put {acc : List (Key × PyData)} {k j : Key} {x : PyData} : valP (putP acc k x) j = if j = k then some x else valP acc j := by
  unfold valP putP
  by_cases h : (acc.any fun p => decide (p.1 = k)) = true
  · rw [if_pos h]
    by_cases e : j = k
    · subst e
      rw [if_pos rfl]
      induction acc with
      | nil => simp at h
      | cons p acc ih =>
        rw [List.map_cons, List.find?_cons]
        by_cases q : p.1 = j
        · simp [q]
        · simp only [List.any_cons, q, decide_false, Bool.false_or] at h
          simp only [q, if_false, decide_false]
          exact ih h
    · rw [if_neg e]
      clear h
      induction acc with
      | nil => rfl
      | cons p acc ih =>
        rw [List.map_cons, List.find?_cons, List.find?_cons]
        by_cases q : p.1 = k
        · have : ¬ p.1 = j := fun z => e (z.symm.trans q)
          have e2 : ¬ k = j := fun z => e z.symm
          simp only [q, if_true, e2, decide_false]
          exact ih
        · simp only [q, if_false]
          by_cases q2 : p.1 = j
          · simp [q2]
          · simp only [q2, decide_false]
            exact ih
  · rw [if_neg h]
    rw [List.find?_append]
    by_cases e : j = k
    · subst e
      have : (acc.find? fun p => decide (p.1 = j)) = none := by
        rw [List.find?_eq_none]
        intro p hp
        rw [Bool.not_eq_true, List.any_eq_false] at h
        exact h p hp
      rw [this, if_pos rfl]
      simp
    · have e2 : ¬ k = j := fun z => e z.symm
      rw [if_neg e]
      cases (acc.find? fun p => decide (p.1 = j)) with
      | none => simp [e2]
      | some p => simp
theorem putP_len {acc : List (Key × PyData)} {k : Key} {x : PyData} : (putP acc k x).length = if (valP acc k).isSome = true then acc.length else acc.length + 1 := by
  have : (acc.any fun p => decide (p.1 = k)) = (valP acc k).isSome := by
    unfold valP
    rw [Option.isSome_map, Bool.eq_iff_iff, List.any_eq_true, List.find?_isSome]
  unfold putP
  rw [this]
  split
  · rw [List.length_map]
  · rw [List.length_append]; rfl
/-- a datum dict that was lent -/
theorem valP_dOf {acc : List (Key × PyData)} {k : Key} : ((acc.map fun p => (kP p.1, p.2)).find? fun p => kEq p.1 k).map (·.2) = valP acc k := by
  unfold valP
  induction acc with
  | nil => rfl
  | cons p acc ih =>
    rw [List.map_cons, List.find?_cons, List.find?_cons]
    have : kEq (kP p.1) k = decide (p.1 = k) := by
      obtain ⟨p1, p2⟩ := p
      cases p1 <;> cases k <;> simp [kEq, kP]
    dsimp only
    rw [this]
    by_cases q : p.1 = k
    · simp [q]
    · simp only [q, decide_false]
      exact ih
theorem fInM_dOf {acc : List (Key × PyData)} {k : Int} {neg : Bool} : fInM neg (.d (.int k)) (.d (dOf acc)) = some (.d (.bool (if neg then !(valP acc (.inl k)).isSome else (valP acc (.inl k)).isSome))) := by
  unfold fInM dOf
  dsimp only [keyP]
  rw [valP_dOf]
end Dh
namespace Dh
open PySem PySem.Spec L2
/-- each deed has something behind it that is known -/
def meetD (W : Nat → Bool) (d : RDeed) : Bool := d.ch.any fun x => W x.1
def meetS (W : Nat → Bool) (st : List RDeed) : Bool := st.all (meetD W)
/-- what is known behind t rounds -/
def kn (h : RHouse) (es : List Nat) : Nat → Nat → Bool
  | 0, i => es.contains i || lot h es i
  | t + 1, i => kn h es t i || meetS (kn h es t) (h.stands.getD i [])
/-- the ranks told behind t rounds -/
def rkV (h : RHouse) (es : List Nat) : Nat → Nat → Nat
  | 0, i => if kn h es 0 i = true then 0 else h.stands.length + 1
  | t + 1, i => if (!kn h es t i && meetS (kn h es t) (h.stands.getD i [])) = true then t + 1 else rkV h es t i
section
variable {N D P g : Nat} {h : RHouse} {es : List Nat}
theorem kn_up {t i : Nat} (a : kn h es t i = true) : kn h es (t + 1) i = true := by
  show (kn h es t i || _) = true
  rw [a]; rfl
theorem kn_mono {s t i : Nat} (hst : s ≤ t) (a : kn h es s i = true) : kn h es t i = true := by
  induction t with
  | zero => rw [Nat.le_zero.mp hst] at a; exact a
  | succ t ih =>
    by_cases e : s = t + 1
    · rw [e] at a; exact a
    · exact kn_up (ih (by omega))
theorem rkV_both (t i : Nat) : (kn h es t i = true → rkV h es t i ≤ t) ∧ (kn h es t i = false → rkV h es t i = h.stands.length + 1) := by
  induction t with
  | zero =>
    refine ⟨fun a => ?_, fun a => ?_⟩
    · show (if kn h es 0 i = true then 0 else h.stands.length + 1) ≤ 0
      rw [if_pos a]; exact Nat.le_refl _
    · show (if kn h es 0 i = true then 0 else h.stands.length + 1) = _
      rw [a]; rfl
  | succ t ih =>
    have e : rkV h es (t + 1) i = if (!kn h es t i && meetS (kn h es t) (h.stands.getD i [])) = true then t + 1 else rkV h es t i := rfl
    have e2 : kn h es (t + 1) i = (kn h es t i || meetS (kn h es t) (h.stands.getD i [])) := rfl
    rw [e, e2]
    cases q : kn h es t i with
    | true =>
      refine ⟨fun _ => ?_, fun z => ?_⟩
      · have := ih.1 q
        simp; omega
      · simp at z
    | false =>
      refine ⟨fun z => ?_, fun z => ?_⟩
      · simp only [Bool.false_or] at z
        simp [z, -List.getD_eq_getElem?_getD]
      · simp only [Bool.false_or] at z
        simp [z, ih.2 q, -List.getD_eq_getElem?_getD]
theorem rkV_lt {t i : Nat} (ht : t ≤ h.stands.length) : decide (rkV h es t i < t + 1) = kn h es t i := by
  obtain ⟨a, b⟩ := rkV_both (h := h) (es := es) t i
  cases q : kn h es t i with
  | true => have := a q; exact decide_eq_true (by omega)
  | false => have := b q; exact decide_eq_false (by omega)
/-- while something is unknown a round finds something -/
theorem kn_more (ok : HouseOk N D P h g) {t : Nat} (a : ∃ i, i < h.stands.length ∧ kn h es t i = false) : ∃ i, i < h.stands.length ∧ kn h es t i = false ∧ meetS (kn h es t) (h.stands.getD i []) = true := by
  refine Classical.byContradiction fun z => ?_
  obtain ⟨i, hi, b⟩ := a
  have l : lot h es i = true := lot_top (S := fun i => i < h.stands.length ∧ kn h es t i = false) (fun i c m => by
    have : kn h es 0 i = true := by
      show (es.contains i || lot h es i) = true
      rw [List.contains_iff_mem.mpr m]; rfl
    have := kn_mono (Nat.zero_le t) this
    rw [c.2] at this; cases this) (fun i hi c => by
    have m : meetS (kn h es t) (h.stands.getD i []) = false := by
      cases q : meetS (kn h es t) (h.stands.getD i []) with
      | false => rfl
      | true => exact absurd ⟨i, hi, c.2, q⟩ z
    unfold meetS at m
    rw [List.all_eq_false] at m
    obtain ⟨d, hd, e⟩ := m
    refine ⟨d, hd, fun x hx => ?_⟩
    have hx' := stand_lt ok hi d hd x hx
    rw [Bool.not_eq_true] at e
    unfold meetD at e
    rw [List.any_eq_false] at e
    have := e x hx
    rw [Bool.not_eq_true] at this
    exact ⟨hx', hx', this⟩) hi ⟨hi, b⟩
  have : kn h es 0 i = true := by
    show (es.contains i || lot h es i) = true
    rw [l, Bool.or_true]
  have := kn_mono (Nat.zero_le t) this
  rw [b] at this; cases this
/-- how many are known -/
def knC (h : RHouse) (es : List Nat) (t : Nat) : Nat := (List.range h.stands.length).countP (kn h es t)
theorem knC_le {t : Nat} : knC h es t ≤ h.stands.length := by
  have := List.countP_le_length (p := kn h es t) (l := List.range h.stands.length)
  rwa [List.length_range] at this
theorem knC_all {t : Nat} : knC h es t = h.stands.length ↔ ∀ i, i < h.stands.length → kn h es t i = true := by
  unfold knC
  have e : h.stands.length = (List.range h.stands.length).length := List.length_range.symm
  conv => lhs; rhs; rw [e]
  rw [List.countP_eq_length]
  exact ⟨fun a i hi => a i (List.mem_range.mpr hi), fun a i hi => a i (List.mem_range.mp hi)⟩
theorem knC_lt (ok : HouseOk N D P h g) {t : Nat} (a : knC h es t ≠ h.stands.length) : knC h es t < knC h es (t + 1) := by
  have : ∃ i, i < h.stands.length ∧ kn h es t i = false := Classical.byContradiction fun z => a (knC_all.mpr fun i hi => by
    cases q : kn h es t i with
    | true => rfl
    | false => exact absurd ⟨i, hi, q⟩ z)
  obtain ⟨i, hi, b, m⟩ := kn_more ok this
  refine countP_lt (p := kn h es t) (q := kn h es (t + 1)) (l := List.range h.stands.length) (fun x hx => kn_up hx) ⟨i, List.mem_range.mpr hi, ?_, b⟩
  show (kn h es t i || _) = true
  rw [m, Bool.or_true]
theorem knC_t (ok : HouseOk N D P h g) (t : Nat) : knC h es t = h.stands.length ∨ t ≤ knC h es t := by
  induction t with
  | zero => exact .inr (Nat.zero_le _)
  | succ t ih =>
    by_cases e : knC h es t = h.stands.length
    · exact .inl (knC_all.mpr fun i hi => kn_up (knC_all.mp e i hi))
    · have := knC_lt ok e
      rcases ih with ih | ih
      · exact absurd ih e
      · exact .inr (by omega)
theorem rkV_on {t : Nat} (a : ∀ i, i < h.stands.length → kn h es t i = true) {i : Nat} (hi : i < h.stands.length) : ∀ k, rkV h es (t + k) i = rkV h es t i
  | 0 => rfl
  | k + 1 => by
    have e : rkV h es (t + k + 1) i = if (!kn h es (t + k) i && meetS (kn h es (t + k)) (h.stands.getD i [])) = true then t + k + 1 else rkV h es (t + k) i := rfl
    rw [← Nat.add_assoc, e, kn_mono (Nat.le_add_right t k) (a i hi)]
    simp
    exact rkV_on a hi k
/-- the ranks -/
def rk (h : RHouse) (es : List Nat) (i : Nat) : Nat := rkV h es h.stands.length i
/-- when all is known the ranks stay -/
theorem rk_of (ok : HouseOk N D P h g) {t : Nat} (a : knC h es t = h.stands.length) {i : Nat} (hi : i < h.stands.length) : rkV h es t i = rk h es i := by
  have at' := knC_all.mp a
  unfold rk
  by_cases c : t ≤ h.stands.length
  · have := rkV_on at' hi (h.stands.length - t)
    rw [show t + (h.stands.length - t) = h.stands.length by omega] at this
    exact this.symm
  · have all : ∀ i, i < h.stands.length → kn h es h.stands.length i = true := by
      rcases knC_t (es := es) ok h.stands.length with e | e
      · exact knC_all.mp e
      · exact knC_all.mp (by have := knC_le (h := h) (es := es) (t := h.stands.length); omega)
    have := rkV_on all hi (t - h.stands.length)
    rw [show h.stands.length + (t - h.stands.length) = t by omega] at this
    exact this
theorem rk_le (ok : HouseOk N D P h g) {i : Nat} (hi : i < h.stands.length) : rk h es i ≤ h.stands.length := by
  have all : ∀ i, i < h.stands.length → kn h es h.stands.length i = true := by
    rcases knC_t (es := es) ok h.stands.length with e | e
    · exact knC_all.mp e
    · exact knC_all.mp (by have := knC_le (h := h) (es := es) (t := h.stands.length); omega)
  exact (rkV_both _ _).1 (all i hi)
end
structure DK (h : RHouse) (es : List Nat) (t : Nat) (acc : List (Key × PyData)) : Prop where
  val : ∀ i : Nat, valP acc (.inl (i : Int)) = if (decide (i < h.stands.length) && kn h es t i) = true then some (iN (rkV h es t i)) else none
  len : acc.length = knC h es t
/-- behind the first j of the news of a round -/
structure DJ (h : RHouse) (es : List Nat) (t : Nat) (L : List Nat) (j : Nat) (acc : List (Key × PyData)) : Prop where
  val : ∀ i : Nat, valP acc (.inl (i : Int)) = if i ∈ L.take j then some (iN (t + 1)) else if (decide (i < h.stands.length) && kn h es t i) = true then some (iN (rkV h es t i)) else none
  len : acc.length = knC h es t + j
def newsL (h : RHouse) (es : List Nat) (t : Nat) : List Nat := (List.range h.stands.length).filter fun i => !kn h es t i && meetS (kn h es t) (h.stands.getD i [])
section
variable {N D P g : Nat} {h : RHouse} {es : List Nat} {t j : Nat} {acc : List (Key × PyData)}
theorem DK.start (d : DK h es t acc) {L : List Nat} : DJ h es t L 0 acc := ⟨fun i => by rw [d.val i]; simp, d.len⟩
theorem DJ.step (d : DJ h es t (newsL h es t) j acc) {k : Nat} (hk : (newsL h es t)[j]? = some k) : DJ h es t (newsL h es t) (j + 1) (putP acc (.inl (k : Int)) (iN (t + 1))) := by
  have hm : k ∈ newsL h es t := List.mem_of_getElem? hk
  have nd : (newsL h es t).Nodup := List.Pairwise.filter _ List.nodup_range
  obtain ⟨h1, h2⟩ := List.mem_filter.mp hm
  rw [Bool.and_eq_true, Bool.not_eq_true'] at h2
  have nin : k ∉ (newsL h es t).take j := fun m => by
    obtain ⟨i, hi, e⟩ := List.mem_take_iff_getElem.mp m
    obtain ⟨hj, e2⟩ := List.getElem?_eq_some_iff.mp hk
    exact (List.pairwise_iff_getElem.mp nd) i j (by omega) hj (by omega) (e.trans e2.symm)
  have no : valP acc (.inl (k : Int)) = none := by
    rw [d.val k, if_neg nin, h2.1]; simp
  have tk : (newsL h es t).take (j + 1) = (newsL h es t).take j ++ [k] := by
    rw [List.take_succ, hk]; rfl
  refine ⟨fun i => ?_, ?_⟩
  · rw [valP_put, tk, d.val i]
    by_cases e : i = k
    · subst e
      rw [if_pos rfl, if_pos (by simp)]
    · rw [if_neg (fun z => e (by injection z; omega))]
      by_cases m : i ∈ (newsL h es t).take j
      · rw [if_pos m, if_pos (List.mem_append_left _ m)]
      · have m2 : ¬ i ∈ (newsL h es t).take j ++ [k] := fun z => by
          rcases List.mem_append.mp z with z | z
          · exact m z
          · exact e (List.mem_singleton.mp z)
        rw [if_neg m, if_neg m2]
  · rw [putP_len, no, d.len]; simp; omega
theorem newsC : knC h es t + (newsL h es t).length = knC h es (t + 1) := by
  unfold knC newsL
  rw [← List.countP_eq_length_filter]
  induction List.range h.stands.length with
  | nil => rfl
  | cons i l ih =>
    rw [List.countP_cons, List.countP_cons, List.countP_cons, ← Nat.add_assoc, ← ih]
    have e2 : kn h es (t + 1) i = (kn h es t i || meetS (kn h es t) (h.stands.getD i [])) := rfl
    rw [e2]
    cases kn h es t i <;> cases meetS (kn h es t) (h.stands.getD i []) <;> simp <;> omega
theorem DJ.fin (d : DJ h es t (newsL h es t) (newsL h es t).length acc) : DK h es (t + 1) acc := by
  refine ⟨fun i => ?_, by rw [d.len, newsC]⟩
  rw [d.val i, List.take_length]
  have e : rkV h es (t + 1) i = if (!kn h es t i && meetS (kn h es t) (h.stands.getD i [])) = true then t + 1 else rkV h es t i := rfl
  have e2 : kn h es (t + 1) i = (kn h es t i || meetS (kn h es t) (h.stands.getD i [])) := rfl
  have e3 : i ∈ newsL h es t ↔ i < h.stands.length ∧ (!kn h es t i && meetS (kn h es t) (h.stands.getD i [])) = true := by
    unfold newsL
    rw [List.mem_filter, List.mem_range]
  rw [e, e2]
  by_cases m : i ∈ newsL h es t
  · obtain ⟨m1, m2⟩ := e3.mp m
    rw [if_pos m, m2]
    rw [Bool.and_eq_true] at m2
    simp [m1, m2.2, -List.getD_eq_getElem?_getD]
  · rw [if_neg m]
    by_cases hi : i < h.stands.length
    · have nn : (!kn h es t i && meetS (kn h es t) (h.stands.getD i [])) = false := by
        rw [← Bool.not_eq_true]; exact fun z => m (e3.mpr ⟨hi, z⟩)
      rw [nn]
      cases q : kn h es t i with
      | true => simp
      | false =>
        rw [q] at nn
        simp only [Bool.not_false, Bool.true_and] at nn
        simp only [Bool.false_or]
        rw [nn]
        simp
    · simp [hi]
end
end Dh
namespace Dh
open PySem PySem.Spec L2
theorem allR_of {α : Type} {p : α → Bool} {d : α} {l : List α} : ((List.range l.length).all fun k => p (l.getD k d)) = l.all p := by
  rw [Bool.eq_iff_iff, List.all_eq_true, List.all_eq_true]
  constructor
  · intro a x hx
    obtain ⟨i, hi, e⟩ := List.getElem_of_mem hx
    have := a i (List.mem_range.mpr hi)
    rw [show l.getD i d = x by rw [List.getD_eq_getElem?_getD, List.getElem?_eq_getElem hi]; exact e] at this
    exact this
  · intro a i hi
    rw [List.mem_range] at hi
    exact a _ (List.mem_of_getElem? (getD_at (d := d) hi))
theorem valP_map {f : Nat → PyData} {i : Nat} : ∀ L : List Nat, valP (L.map fun k : Nat => ((Sum.inl (k : Int) : Key), f k)) (.inl (i : Int)) = if L.contains i = true then some (f i) else none
  | [] => rfl
  | k :: r => by
    have ih := valP_map (f := f) (i := i) r
    unfold valP at ih ⊢
    rw [List.map_cons, List.find?_cons]
    by_cases e : i = k
    · subst e; simp
    · have e1 : ¬ (Sum.inl (k : Int) : Key) = .inl (i : Int) := fun z => e (by injection z; omega)
      have e2 : ¬ k = i := fun z => e z.symm
      simp only [e1, decide_false]
      rw [ih]
      simp [e]
section
variable {N D P g : Nat} {h : RHouse} {es : List Nat} {t j : Nat} {acc : List (Key × PyData)}
theorem DK.has (d : DK h es t acc) {i : Nat} (hi : i < h.stands.length) : (valP acc (.inl (i : Int))).isSome = kn h es t i := by
  rw [d.val i]
  cases kn h es t i <;> simp [hi]
theorem startK (eo : EndsOk h.stands.length es) : DK h es 0 ((es ++ lotL h es).map fun k : Nat => ((Sum.inl (k : Int) : Key), iN 0)) ∧ (es ++ lotL h es).Nodup := by
  have nd : (es ++ lotL h es).Nodup := by
    rw [List.nodup_append]
    refine ⟨eo.asc.imp fun hab => by omega, List.Pairwise.filter _ List.nodup_range, fun a ha b hb e => ?_⟩
    subst e
    exact lot_no (List.mem_filter.mp hb).2 ha
  have mem : ∀ i, i ∈ es ++ lotL h es ↔ i ∈ (List.range h.stands.length).filter (kn h es 0) := fun i => by
    rw [List.mem_append, List.mem_filter, List.mem_range]
    unfold lotL
    rw [List.mem_filter, List.mem_range]
    have e : kn h es 0 i = (es.contains i || lot h es i) := rfl
    rw [e, Bool.or_eq_true, List.contains_iff_mem]
    constructor
    · rintro (a | a)
      · exact ⟨eo.lt a, .inl a⟩
      · exact ⟨a.1, .inr a.2⟩
    · rintro ⟨a, b | b⟩
      · exact .inl b
      · exact .inr ⟨a, b⟩
  refine ⟨⟨fun i => ?_, ?_⟩, nd⟩
  · rw [valP_map (f := fun _ => iN 0)]
    have : (es ++ lotL h es).contains i = (decide (i < h.stands.length) && kn h es 0 i) := by
      rw [Bool.eq_iff_iff, List.contains_iff_mem, mem, List.mem_filter, List.mem_range, Bool.and_eq_true, decide_eq_true_iff]
    rw [this]
    by_cases q : (decide (i < h.stands.length) && kn h es 0 i) = true
    · rw [if_pos q, if_pos q]
      rw [Bool.and_eq_true] at q
      rw [show rkV h es 0 i = 0 from if_pos q.2]
    · rw [if_neg q, if_neg q]
  · rw [List.length_map]
    unfold knC
    rw [List.countP_eq_length_filter]
    exact ((List.perm_ext_iff_of_nodup nd (List.Pairwise.filter _ List.nodup_range)).mpr mem).length_eq
end
end Dh
namespace WW
open PySem PySem.Spec L2 PySem.W Dh
section
variable {N D P g : Nat} {h : RHouse} {c es : List Nat} {s : Sto} {t : Nat} {acc : List (Key × PyData)}
theorem e_meets_all (ok : HouseOk N D P h g) (hN : N ≤ 9) (hD : D ≤ 9) (dk : DK h es t acc) {i : Nat} (hi : i < h.stands.length) :
    f_meets_all [.d (pHouse h), .d (dOf acc), .d (.int (i : Int))] s = some (.d (.bool (meetS (kn h es t) (h.stands.getD i []))), s) := by
  have hn := ok.nN
  have hst := ok.each _ (stand_mem hi)
  refine WF.eq (WF.body rfl ?_)
  simp [m_meets_all, List.replicate_succ]
  refine WF.of (e_range_of ok hD hi) ?_
  simp [-List.getD_eq_getElem?_getD]
  refine WLc_map iN (fun k => PyData.bool (meetD (kn h es t) ((h.stands.getD i []).getD k d0))) (List.range (h.stands.getD i []).length) (fun k hk => ?_) ?_
  · rw [List.mem_range] at hk
    have mem := List.mem_of_getElem? (getD_at (d := d0) hk)
    have hd := (hst.2.2 _ mem).ch
    have sl := stand_lt ok hi _ mem
    simp [iN, -List.getD_eq_getElem?_getD]
    refine WF.of (e_led_to ok hN hi hk) ?_
    unfold meetD
    generalize (h.stands.getD i []).getD k d0 = d at *
    simp [-List.getD_eq_getElem?_getD]
    refine WLc_map (fun x : Nat × Rat => iN x.1) (fun x => PyData.bool (kn h es t x.1)) d.ch (fun x hx => ?_) ?_
    · simp [iN, fInM_dOf, dk.has (sl x hx)]
    refine ⟨szle (by rw [List.length_map]; have := hd.len; omega), ?_⟩
    have fa : fAny [.f (d.ch.map fun x => PyData.bool (kn h es t x.1))] = some (.d (.bool (d.ch.any fun x => kn h es t x.1))) := fAny_of
    simp [fa, -List.any_eq_true]
  refine ⟨szle (by rw [List.length_map, List.length_range]; omega), ?_⟩
  have fa : fAll [.f ((List.range (h.stands.getD i []).length).map fun k => PyData.bool (meetD (kn h es t) ((h.stands.getD i []).getD k d0)))] = some (.d (.bool ((List.range (h.stands.getD i []).length).all fun k => meetD (kn h es t) ((h.stands.getD i []).getD k d0)))) := fAll_of
  rw [allR_of] at fa
  simp [fa, meetS, -List.getD_eq_getElem?_getD, -List.all_eq_true]
theorem e_ranks_by (ok : HouseOk N D P h g) (hN : N ≤ 9) (hD : D ≤ 9) (eo : EndsOk h.stands.length es) :
    f_ranks_by [.d (pHouse h), .d (.tuple (es.map iN))] s = some (.d (.tuple ((List.range h.stands.length).map fun i => iN (rk h es i))), s) := by
  have hn := ok.nN
  obtain ⟨dk0, nd⟩ := startK eo
  have el : es.length ≤ h.stands.length := ends_len eo
  have ll : (lotL h es).length ≤ h.stands.length := filt_len
  refine WF.eq (WF.body rfl ?_)
  have lt := EsD.lst (es := es) (e := .tuple (es.map iN)) (.inl rfl) (by omega)
  simp [m_ranks_by, List.replicate_succ, lt]
  refine WF.of (e_staying ok hN hD eo) ?_
  have fc : fCat (.f (es.map iN)) (.d (.list ((lotL h es).map iN))) = some (.f ((es ++ lotL h es).map iN)) := by
    rw [List.map_append]
    exact if_pos (szle (by rw [List.length_map, List.length_map]; omega))
  simp [fc]
  rw [← List.map_append]
  refine WDc_new iN (fun i : Nat => Sum.inl (i : Int)) (fun _ => iN 0) (es ++ lotL h es) (szle (by rw [List.length_append]; omega)) ?_ (fun i hi => ?_) ?_
  · exact nd.imp fun hab z => hab (by injection z; omega)
  · simp [iN]
  generalize ((es ++ lotL h es).map fun x : Nat => ((Sum.inl (x : Int) : Key), iN 0)) = acc0 at *
  simp
  refine WWh_inv (fun m ρ s' => s' = s ∧ ∃ (t : Nat) (acc : List (Key × PyData)) (x4 x5 : Option Cl), ρ = [some (.d (pHouse h)), some (.d (.tuple (es.map iN))), some (.m acc), some (.d (.int (t : Int))), x4, x5] ∧ DK h es t acc ∧ h.stands.length - knC h es t = m) (h.stands.length - knC h es 0) ⟨rfl, 0, acc0, none, none, rfl, dk0, rfl⟩ ?_
  rintro m ρ s' ⟨rfl, t, acc, x4, x5, rfl, dk, rfl⟩
  have kl := knC_le (h := h) (es := es) (t := t)
  by_cases q : knC h es t = h.stands.length
  · have q2 : ¬ (acc.length : Int) < (h.stands.length : Int) := by rw [dk.len]; omega
    simp [pHouse, q2, range1_nat (n := h.stands.length) (by omega)]
    refine WLc_map (fun i : Nat => PyData.int (i : Nat)) (fun i => iN (rk h es i)) (List.range h.stands.length) (fun i hi => ?_) ?_
    · rw [List.mem_range] at hi
      have all := knC_all.mp q i hi
      have := dk.val i
      rw [all, rk_of ok q hi] at this
      simp [hi] at this
      simp [this]
    refine ⟨szle (by rw [List.length_map, List.length_range]; omega), ?_⟩
    simp
  · have q2 : (acc.length : Int) < (h.stands.length : Int) := by rw [dk.len]; omega
    simp [pHouse, q2, range1_nat (n := h.stands.length) (by omega)]
    have hgo := knC_lt ok q
    have kl2 := knC_le (h := h) (es := es) (t := t + 1)
    have acl := dk.len
    refine WFor_inv (fun i : Nat => PyData.int (i : Nat)) (List.range h.stands.length) (fun j ρ s1 => s1 = s' ∧ ∃ x5, ρ = [some (.d (pHouse h)), some (.d (.tuple (es.map iN))), some (.m acc), some (.d (.int ((t : Int) + 1))), some (.o (((List.range j).filter fun i => !kn h es t i && meetS (kn h es t) (h.stands.getD i [])).map iN)), x5]) ⟨rfl, x5, by simp [pHouse]⟩ ?_ ?_
    · rintro j x ρ s1 hx ⟨rfl, x5, rfl⟩
      obtain ⟨rfl, hj⟩ := range_at hx
      rw [List.range_succ, List.filter_append, List.map_append]
      have fl : ((List.range x).filter fun i => !kn h es t i && meetS (kn h es t) (h.stands.getD i [])).length ≤ x := by
        have := List.length_filter_le (fun i => !kn h es t i && meetS (kn h es t) (h.stands.getD i [])) (List.range x)
        rwa [List.length_range] at this
      generalize (List.range x).filter (fun i => !kn h es t i && meetS (kn h es t) (h.stands.getD i [])) = L at *
      simp [dk.has hj]
      cases k : kn h es t x with
      | true => simp [k]
      | false =>
        simp [k]
        refine WF.of (e_meets_all ok hN hD dk hj) ?_
        cases m : meetS (kn h es t) (h.stands.getD x []) with
        | true =>
          refine ⟨_, rfl, rfl, ?_⟩
          rw [List.getD_eq_getElem?_getD] at m
          simp [k, m, iN]
          refine szlt ?_
          omega
        | false =>
          refine ⟨_, rfl, rfl, ?_⟩
          rw [List.getD_eq_getElem?_getD] at m
          simp [k, m]
    · rintro ρ s1 ⟨rfl, x5, rfl⟩
      rw [List.length_range, show (List.range h.stands.length).filter (fun i => !kn h es t i && meetS (kn h es t) (h.stands.getD i [])) = newsL h es t from rfl]
      have nc := newsC (h := h) (es := es) (t := t)
      simp [frzs, frz1, -List.getD_eq_getElem?_getD]
      refine WFor_inv iN (newsL h es t) (fun j ρ s2 => s2 = s1 ∧ ∃ acc' x5, ρ = [some (.d (pHouse h)), some (.d (.tuple (es.map iN))), some (.m acc'), some (.d (.int ((t : Int) + 1))), some (.d (.list ((newsL h es t).map iN))), x5] ∧ DJ h es t (newsL h es t) j acc') ⟨rfl, acc, x5, rfl, dk.start⟩ ?_ ?_
      · rintro j x ρ s2 hx ⟨rfl, acc', x5, rfl, dj⟩
        have hj := (List.getElem?_eq_some_iff.mp hx).1
        have st := dj.step hx
        have dl := dj.len
        simp [iN]
        exact ⟨szlt (by omega), by simpa [iN] using st⟩
      · rintro ρ s2 ⟨rfl, acc', x5, rfl, dj⟩
        have f := dj.fin
        simp
        exact ⟨_, by omega, t + 1, acc', ⟨rfl, rfl, by omega⟩, f, rfl⟩
end
end WW
namespace Dh
open PySem PySem.Spec L2
theorem fAll_b {α : Type} {f : α → Bool} {l : List α} : fAll [.b (l.map fun x => PyData.bool (f x))] = some (.d (.bool (l.all f))) := by
  show (match rdL (.b (l.map fun x => PyData.bool (f x))) with | some xs => (boolsOf xs).map fun bs : List Bool => R.d (.bool (bs.all id)) | none => none) = _
  rw [ev_rdL3]
  dsimp only
  rw [bools_of, Option.map_some, List.all_map]
  rfl
theorem len_any {α : Type} {p : α → Bool} {l : List α} : decide ((0 : Int) < ((l.filter p).length : Int)) = l.any p := by
  rw [Bool.eq_iff_iff, decide_eq_true_iff, List.any_eq_true]
  constructor
  · intro a
    have : 0 < (l.filter p).length := by omega
    obtain ⟨x, hx⟩ := List.exists_mem_of_length_pos this
    obtain ⟨h1, h2⟩ := List.mem_filter.mp hx
    exact ⟨x, h1, h2⟩
  · rintro ⟨x, h1, h2⟩
    have := List.length_pos_of_mem (List.mem_filter.mpr ⟨h1, h2⟩)
    omega
/-- the law's row of ranks within a round -/
def fnd (h : RHouse) (es : List Nat) (t j : Nat) : List PyData := (List.range h.stands.length).map fun i => iN (if i < j then rkV h es (t + 1) i else rkV h es t i)
section
variable {N D P g : Nat} {h : RHouse} {es : List Nat} {t j : Nat}
theorem fnd_0 : fnd h es t 0 = (List.range h.stands.length).map fun i => iN (rkV h es t i) := by
  unfold fnd; refine List.map_congr_left fun i _ => by rw [if_neg (Nat.not_lt_zero i)]
theorem fnd_n : fnd h es t h.stands.length = fnd h es (t + 1) 0 := by
  rw [fnd_0]
  unfold fnd; refine List.map_congr_left fun i hi => by rw [if_pos (List.mem_range.mp hi)]
theorem fnd_len : (fnd h es t j).length = h.stands.length := by unfold fnd; simp
theorem fnd_at {i : Nat} (hi : i < h.stands.length) : atI (fnd h es t 0) (i : Int) = some (iN (rkV h es t i)) := by
  rw [fnd_0, atI_ofNat (by simpa using hi)]
  simp [hi]
theorem fnd_set (hj : j < h.stands.length) : (fnd h es t j).set j (iN (rkV h es (t + 1) j)) = fnd h es t (j + 1) := by
  unfold fnd
  apply List.ext_getElem?
  intro i
  rw [List.getElem?_set, List.length_map, List.length_range, List.getElem?_map, List.getElem?_map]
  by_cases hi : i < h.stands.length
  · rw [List.getElem?_range hi]
    by_cases e : j = i
    · subst e
      rw [if_pos rfl, if_pos hj, Option.map_some, if_pos (Nat.lt_succ_self j)]
    · rw [if_neg e, Option.map_some, Option.map_some]
      by_cases q : i < j
      · rw [if_pos q, if_pos (by omega)]
      · rw [if_neg q, if_neg (by omega)]
  · rw [List.getElem?_eq_none (by simp; omega)]
    rw [if_neg (by omega)]
    rfl
theorem fnd_same (e : rkV h es (t + 1) j = rkV h es t j) : fnd h es t j = fnd h es t (j + 1) := by
  unfold fnd
  refine List.map_congr_left fun i _ => ?_
  by_cases q : i = j
  · subst q; rw [if_neg (Nat.lt_irrefl i), if_pos (Nat.lt_succ_self i), e]
  · by_cases q2 : i < j
    · rw [if_pos q2, if_pos (by omega)]
    · rw [if_neg q2, if_neg (by omega)]
end
end Dh
namespace WW
open PySem PySem.Spec L2 PySem.W Dh
section
variable {N D P g : Nat} {h : RHouse} {c es : List Nat} {s : Sto}
theorem e_ranks_of (ok : HouseOk N D P h g) (hN : N ≤ 8) (hD : D ≤ 4) (hp : h.pays ≤ 4) (eo : EndsOk h.stands.length es) :
    f_ranks_of [.d (pHouse h), .d (.tuple (es.map iN))] s = some (.d (.tuple ((List.range h.stands.length).map fun i => iN (rk h es i))), s) := by
  have hn := ok.nN
  refine WF.eq (WF.body rfl ?_)
  simp [m_ranks_of]
  refine WF.of (e_check_house ok (by omega) (by omega) (by omega)) ?_
  simp
  refine WF.of (e_check_goals eo (by omega)) ?_
  simp
  exact WF.of (e_ranks_by ok (by omega) (by omega) eo) (by simp)
theorem e_lranks (ok : HouseOk 4 3 P h g) (eo : EndsOk h.stands.length es) :
    f_law_ranks [.d (pHouse h), .d (.tuple (es.map iN))] s = some (.d (.tuple ((List.range h.stands.length).map fun i => iN (rk h es i))), s) := by
  have hn := ok.nN
  have ess := ends_small eo (by omega)
  have ls : Sm (lotL h es) := filt_sm (by omega)
  have r2 : range2 [.d (.int 1), .d (.int ((h.stands.length : Int) + 1))] = some ((List.range h.stands.length).map fun t : Nat => PyData.int (1 + (t : Int))) := by
    have := range2_nat (a := 1) (b := h.stands.length + 1) (by omega) (by omega)
    simpa using this
  refine WF.eq (WF.body rfl ?_)
  simp [m_law_ranks, List.replicate_succ]
  refine WF.of (e_lnever ok eo) ?_
  simp [pHouse, range1_nat (n := h.stands.length) (by omega)]
  refine WFor_inv (fun i : Nat => PyData.int (i : Nat)) (List.range h.stands.length) (fun j ρ s' => s' = s ∧ ∃ x4, ρ = [some (.d (pHouse h)), some (.d (.tuple (es.map iN))), some (.o ((lotL h es).map iN)), some (.o ((List.range j).map fun i => iN (rkV h es 0 i))), x4, none, none, none, none, none]) ⟨rfl, none, rfl⟩ ?_ ?_
  · rintro j x ρ s' hx ⟨rfl, x4, rfl⟩
    obtain ⟨rfl, hj⟩ := range_at hx
    have e0 : rkV h es 0 x = if (es.contains x || lot h es x) = true then 0 else h.stands.length + 1 := rfl
    have lc : (lotL h es).contains x = lot h es x := filt_has hj
    simp [fIn_t ess, -List.contains_eq_mem]
    by_cases q : es.contains x = true
    · simp [q, List.range_succ, e0, -List.contains_eq_mem]
      exact ⟨szlt (by omega), rfl⟩
    · rw [Bool.not_eq_true] at q
      by_cases q2 : lot h es x = true
      · simp [q, fIn_b ls, lc, q2, List.range_succ, e0, -List.contains_eq_mem]
        exact ⟨szlt (by omega), rfl⟩
      · rw [Bool.not_eq_true] at q2
        simp [q, fIn_b ls, lc, q2, List.range_succ, e0, pHouse, -List.contains_eq_mem]
        exact ⟨szlt (by omega), rfl⟩
  rintro ρ s' ⟨rfl, x4, rfl⟩
  rw [List.length_range, ← fnd_0]
  simp [pHouse, r2]
  refine WFor_inv (fun t : Nat => PyData.int (1 + (t : Int))) (List.range h.stands.length) (fun t ρ s1 => s1 = s' ∧ ∃ x4 x5 x6 x7 x8 x9, ρ = [some (.d (pHouse h)), some (.d (.tuple (es.map iN))), some (.o ((lotL h es).map iN)), some (.o (fnd h es t 0)), x4, x5, x6, x7, x8, x9]) ⟨rfl, x4, none, none, none, none, none, rfl⟩ ?_ ?_
  · rintro t x ρ s1 hx ⟨rfl, x4, x5, x6, x7, x8, x9, rfl⟩
    obtain ⟨rfl, ht⟩ := range_at hx
    simp [fnd_len, range1_nat (n := h.stands.length) (by omega)]
    refine WLc_opt (fun i : Nat => PyData.int (i : Nat)) (fun i => if kn h es x i = true then some (iN i) else none) (List.range h.stands.length) (fun i hi => ?_) ?_
    · rw [List.mem_range] at hi
      have rl := rkV_lt (h := h) (es := es) (t := x) (i := i) (by omega)
      have e3 : decide ((rkV h es x i : Int) < 1 + (x : Int)) = kn h es x i := by
        rw [← rl]
        exact decide_eq_decide.mpr (by omega)
      simp [fnd_at hi, iN, e3]
      cases kn h es x i <;> simp [iN]
    rw [filterMap_if]
    have ks : Sm ((List.range h.stands.length).filter (kn h es x)) := filt_sm (by omega)
    have kh : ∀ i, i < h.stands.length → ((List.range h.stands.length).filter (kn h es x)).contains i = kn h es x i := fun i hi => filt_has hi
    have kl : ((List.range h.stands.length).filter (kn h es x)).length ≤ h.stands.length := filt_len
    generalize (List.range h.stands.length).filter (kn h es x) = KL at *
    refine ⟨szle (by rw [List.length_map]; omega), ?_⟩
    simp [fnd_len, range1_nat (n := h.stands.length) (by omega)]
    refine WFor_inv (fun i : Nat => PyData.int (i : Nat)) (List.range h.stands.length) (fun j ρ s2 => s2 = s1 ∧ ∃ x4 x7 x8 x9, ρ = [some (.d (pHouse h)), some (.d (.tuple (es.map iN))), some (.o ((lotL h es).map iN)), some (.o (fnd h es x j)), x4, some (.d (.int (1 + (x : Int)))), some (.o (KL.map iN)), x7, x8, x9]) ⟨rfl, x4, x7, x8, x9, by simp [pHouse]⟩ ?_ ?_
    · rintro j y ρ s2 hy ⟨rfl, x4, x7, x8, x9, rfl⟩
      obtain ⟨rfl, hj⟩ := range_at hy
      have hst := ok.each _ (stand_mem hj)
      have e1 := atI_stand hj
      have sl := stand_lt ok hj
      have er : rkV h es (x + 1) y = if (!kn h es x y && meetS (kn h es x) (h.stands.getD y [])) = true then x + 1 else rkV h es x y := rfl
      have es1 := fnd_set (h := h) (es := es) (t := x) hj
      have es2 := fnd_same (h := h) (es := es) (t := x) (j := y)
      rw [er] at es1 es2
      simp [pHouse, e1, -List.getD_eq_getElem?_getD]
      generalize h.stands.getD y [] = st at *
      simp [pStand]
      refine WLc_map pDeed (fun d => PyData.bool (meetD (kn h es x) d)) st (fun d hd => ?_) ?_
      · have hch := (hst.2.2 d hd).ch
        simp [pDeed]
        refine WLc_opt pCh (fun z => if kn h es x z.1 = true then some (pCh z) else none) d.ch (fun z hz => ?_) ?_
        · have := kh z.1 (sl d hd z hz)
          simp [pCh, fIn_b ks, this, -List.contains_eq_mem]
          cases kn h es x z.1 <;> simp [pCh]
        rw [filterMap_if]
        have fl : (d.ch.filter fun z => kn h es x z.1).length ≤ d.ch.length := List.length_filter_le _ _
        refine ⟨szle (by rw [List.length_map]; have := hch.len; omega), ?_⟩
        have la := len_any (p := fun z : Nat × Rat => kn h es x z.1) (l := d.ch)
        simp [meetD, -List.any_eq_true]
        exact la
      refine ⟨szle (by rw [List.length_map]; omega), ?_⟩
      have fa : fAll [.b (st.map fun d => PyData.bool (meetD (kn h es x) d))] = some (.d (.bool (st.all (meetD (kn h es x))))) := fAll_b
      simp [fIn_b ks, kh y hj, -List.contains_eq_mem]
      cases k : kn h es x y with
      | true =>
        rw [k] at es2
        simp [k]
        exact es2 (by simp)
      | false =>
        rw [k] at es1 es2
        simp [k, fa, -List.all_eq_true]
        cases m : st.all (meetD (kn h es x)) with
        | true =>
          have m' : meetS (kn h es x) st = true := m
          have ei := ixN_ofNat (n := h.stands.length) hj
          rw [m'] at es1
          simp only [Bool.not_false, Bool.true_and, if_true] at es1
          simp [Dh.putL, fnd_len, ei]
          rw [← es1]
          simp [iN, Int.add_comm]
        | false =>
          have m' : meetS (kn h es x) st = false := m
          rw [m'] at es2
          simp
          exact es2 (by simp)
    · rintro ρ s2 ⟨rfl, x4, x7, x8, x9, rfl⟩
      rw [List.length_range, fnd_n]
      simp
  · rintro ρ s1 ⟨rfl, x4, x5, x6, x7, x8, x9, rfl⟩
    rw [List.length_range]
    simp [fnd_0]
    exact fun a _ => rfl
end
end WW
namespace Dh
open PySem PySem.Spec L2
def onesOf (h : RHouse) (es c : List Nat) : List Nat := (List.range h.stands.length).filter fun i => decide (cv h es c i = 1)
section
variable {N D P g : Nat} {h : RHouse} {es c : List Nat}
theorem cv_one (ok : HouseOk N D P h g) (hc : ChoiceOk h c) (eo : EndsOk h.stands.length es) {i : Nat} (hi : i < h.stands.length) : cv h es c i ≤ 1 := com_le_one (chM_sto ok hc) eo hi
theorem any_top (ok : HouseOk N D P h g) (eo : EndsOk h.stands.length es) (hc : ChoiceOk h c) (best : ∀ e, ChoiceOk h e → ∀ i, i < h.stands.length → cv h es e i ≤ cv h es c i) {i : Nat} (hi : i < h.stands.length) :
    ((chs (counts h)).any fun e => (onesOf h es e).contains i) = decide (cv h es c i = 1) := by
  rw [Bool.eq_iff_iff, List.any_eq_true, decide_eq_true_iff]
  constructor
  · rintro ⟨e, he, a⟩
    have a' : decide (cv h es e i = 1) = true := (filt_has hi).symm.trans a
    have h1 := best e (chs_choice.mp he) i hi
    rw [decide_eq_true_iff.mp a'] at h1
    exact Rat.le_antisymm (cv_one ok hc eo hi) h1
  · intro a
    exact ⟨c, chs_choice.mpr hc, (filt_has hi).trans (decide_eq_true a)⟩
theorem all_low (ok : HouseOk N D P h g) (eo : EndsOk h.stands.length es) (hc : ChoiceOk h c) (best : ∀ e, ChoiceOk h e → ∀ i, i < h.stands.length → cv h es c i ≤ cv h es e i) {i : Nat} (hi : i < h.stands.length) :
    ((chs (counts h)).all fun e => (onesOf h es e).contains i) = decide (cv h es c i = 1) := by
  rw [Bool.eq_iff_iff, List.all_eq_true, decide_eq_true_iff]
  constructor
  · intro a
    have := a c (chs_choice.mpr hc)
    have a' : decide (cv h es c i = 1) = true := (filt_has hi).symm.trans this
    exact decide_eq_true_iff.mp a'
  · intro a e he
    have h1 := best e (chs_choice.mp he) i hi
    rw [a] at h1
    exact (filt_has hi).trans (decide_eq_true (Rat.le_antisymm (cv_one ok (chs_choice.mp he) eo hi) h1))
theorem ones_sm (ok : HouseOk 4 3 P h g) : Sm (onesOf h es c) := filt_sm (by have := ok.nN; omega)
end
end Dh
namespace WW
open PySem PySem.Spec L2 PySem.W Dh
section
variable {N D P g : Nat} {h : RHouse} {c es : List Nat} {s : Sto}
theorem e_stands_of_one {n : Nat} {f : Nat → Rat} (hn : n ≤ 9) : f_stands_of_one [.d (.tuple (rowL n f))] s = some (.d (.tuple (((List.range n).filter fun i => decide (f i = 1)).map iN)), s) := by
  refine WF.eq (WF.body rfl ?_)
  unfold rowL
  simp [m_stands_of_one, List.replicate_succ, numbered_range]
  refine WLc_opt (fun i : Nat => PyData.tuple [.int (i : Nat), pQ (f i)]) (fun i => if decide (f i = 1) = true then some (iN i) else none) (List.range n) (fun i hi => ?_) ?_
  · have e2 := fEq_pQ (p := f i) (q := 1) (neg := false)
    rw [show pQ 1 = k_ONE from rfl] at e2
    simp [e2]
    by_cases q : f i = 1
    · simp [q, iN]
    · simp [q]
  rw [filterMap_if]
  refine ⟨szle (by rw [List.length_map]; have := filt_len (n := n) (p := fun i => decide (f i = 1)); omega), ?_⟩
  simp
theorem e_sure {x : PyData} (hn : h.stands.length ≤ 9) (eg : f_greatest_coming [.d (pHouse h), .d (.tuple (es.map iN))] s = some (.d (.tuple [.tuple (rowL h.stands.length (cv h es c)), x]), s)) :
    f_sure_stands [.d (pHouse h), .d (.tuple (es.map iN))] s = some (.d (.tuple ((onesOf h es c).map iN)), s) := by
  refine WF.eq (WF.body rfl ?_)
  simp [m_sure_stands]
  refine WF.of eg ?_
  simp
  exact WF.of (e_stands_of_one hn) (by simp [onesOf])
theorem e_certain {x : PyData} (hn : h.stands.length ≤ 9) (eg : f_least_coming [.d (pHouse h), .d (.tuple (es.map iN))] s = some (.d (.tuple [.tuple (rowL h.stands.length (cv h es c)), x]), s)) :
    f_certain_stands [.d (pHouse h), .d (.tuple (es.map iN))] s = some (.d (.tuple ((onesOf h es c).map iN)), s) := by
  refine WF.eq (WF.body rfl ?_)
  simp [m_certain_stands]
  refine WF.of eg ?_
  simp
  exact WF.of (e_stands_of_one hn) (by simp [onesOf])
theorem e_lones (ok : HouseOk 4 3 P h g) (hP : P ≤ 9) (eo : EndsOk h.stands.length es) : f_law_ones [.d (pHouse h), .d (.tuple (es.map iN))] s = some (.f ((chs (counts h)).map fun e => .list ((onesOf h es e).map iN)), s) := by
  have hn := ok.nN
  have hall : ∀ e ∈ chs (counts h), ChoiceOk h e := fun e he => chs_choice.mp he
  have hlen : (chs (counts h)).length ≤ 81 := by
    have a := chs_len (b := 3) (counts h) (fun n hn => by
      obtain ⟨st, hs, rfl⟩ := List.mem_map.mp hn
      exact (ok.each st hs).2.1)
    have b : (counts h).length = h.stands.length := List.length_map _
    rw [b] at a
    exact Nat.le_trans a (Nat.le_trans (Nat.pow_le_pow_right (by decide) hn) (by decide))
  generalize hL : chs (counts h) = L at *
  refine WF.eq (WF.body rfl ?_)
  simp [m_law_ones, List.replicate_succ]
  refine WF.of (e_lchoices ok) ?_
  rw [hL]
  simp
  refine WFor_inv cT L (fun k ρ s' => s' = s ∧ ∃ x3 x4, ρ = [some (.d (pHouse h)), some (.d (.tuple (es.map iN))), some (.o ((L.take k).map fun e => .list ((onesOf h es e).map iN))), x3, x4, none]) ⟨rfl, none, none, rfl⟩ ?_ ?_
  · rintro k e ρ s' hk ⟨rfl, x3, x4, rfl⟩
    have he := hall e (List.mem_of_getElem? hk)
    have hkl := (List.getElem?_eq_some_iff.mp hk).1
    simp [cT]
    refine WF.of (e_lsure (ok.wd (by decide) (by decide) hP) he) ?_
    simp
    refine WF.of (e_lcoming_c ok (by decide) (by decide) hP he eo) ?_
    simp [rowL_len, range1_nat (n := h.stands.length) (by omega)]
    refine WLc_opt (fun i : Nat => PyData.int (i : Nat)) (fun i => if decide (cv h es e i = 1) = true then some (iN i) else none) (List.range h.stands.length) (fun i hi => ?_) ?_
    · rw [List.mem_range] at hi
      have e1 := atI_row (w := h.stands.length) (f := cv h es e) hi
      have e2 := fEq_pQ (p := cv h es e i) (q := 1) (neg := false)
      rw [show pQ 1 = .tuple [.int 1, .int 1] from rfl] at e2
      simp [e1, sz2, e2]
      by_cases q : cv h es e i = 1
      · simp [q, iN]
      · simp [q]
    rw [filterMap_if]
    refine ⟨szle (by rw [List.length_map]; have := filt_len (n := h.stands.length) (p := fun i => decide (cv h es e i = 1)); omega), ?_⟩
    simp
    refine ⟨szlt (by omega), ?_⟩
    rw [← List.map_take, ← List.map_take, take_snoc hk]
    simp [onesOf]
  · rintro ρ s' ⟨rfl, x3, x4, rfl⟩
    rw [List.take_length]
    simp
end
end WW
namespace Dh
open PySem PySem.Spec L2 PySem.W
theorem cut9 (xs : List PyData) : cutD xs none (some 9) = xs.take 9 := by
  unfold cutD
  rw [HT.sIx_none, show HT.sIx xs.length xs.length (some 9) = min 9 xs.length from HT.sIx_nat xs.length xs.length 9, List.drop_zero, Nat.sub_zero]
  by_cases h : 9 ≤ xs.length
  · rw [Nat.min_eq_left h]
  · rw [Nat.min_eq_right (by omega), List.take_of_length_le (by omega), List.take_of_length_le (by omega)]
end Dh
namespace WW
open PySem PySem.Spec L2 PySem.W Dh
theorem w_spring {ns : List Int} {l : Nat} (hl : l ≤ 100) {s : Sto} : WF f_law_spring [.d (.list (ns.map .int)), .d (.int (l : Int))] s fun r s' => s' = s ∧ ∃ a b : Int, r = .f [.int a, .int b, .int 0] ∧ 0 ≤ b ∧ b < 2147483579 := by
  have q : mulOk 9973 (l : Int) = true := mulOk_of (a := 14) (b := 7) (by decide) (by omega) (by decide)
  have key : ∀ (x c A B C : Int), 0 ≤ x → x < 2147483579 → A.natAbs < 2 ^ 20 → B.natAbs < 2 ^ 20 → mulOk x A = true ∧ mulOk (c % 2147483579) B = true ∧ 0 ≤ (x * A + c % 2147483579 * B + C) % 2147483579 ∧ (x * A + c % 2147483579 * B + C) % 2147483579 < 2147483579 := fun x c A B C h0 h1 hA hB => by
    have r0 : 0 ≤ c % 2147483579 := Int.emod_nonneg _ (by decide)
    have r1 : c % 2147483579 < 2147483579 := Int.emod_lt_of_pos _ (by decide)
    exact ⟨mulOk_of (a := 31) (by omega) hA (by decide), mulOk_of (a := 31) (by omega) hB (by decide), Int.emod_nonneg _ (by decide), Int.emod_lt_of_pos _ (by decide)⟩
  refine WF.body rfl ?_
  simp [m_law_spring, List.replicate_succ, fMul_ok q, fSl, cut9]
  rw [← List.map_take]
  refine WFor_inv (fun z : Int => PyData.int z) (ns.take 9) (fun i ρ s' => s' = s ∧ ∃ y x3, ρ = [some (.d (.list (ns.map .int))), some (.d (.int (l : Int))), some (.d (.int y)), x3, none] ∧ 0 ≤ y ∧ y < 2147483579) ⟨rfl, 61823 + 9973 * (l : Int), none, rfl, by omega, by omega⟩ ?_ ?_
  · rintro i z ρ s' hz ⟨rfl, y, x3, rfl, h0, h1⟩
    obtain ⟨k1, k2, k3, k4⟩ := key y z 52711 5 23 h0 h1 (by decide) (by decide)
    simp [gMod_pos, fMul_ok k1, fMul_ok k2]
    exact ⟨k3, k4⟩
  · rintro ρ s' ⟨rfl, y, x3, rfl, h0, h1⟩
    have gp : gPow 10 15 = some (.int (10 ^ (15 : Int).toNat)) := if_pos (by decide)
    generalize (10 : Int) ^ (15 : Int).toNat = T at gp
    have fin : ∀ o : Int, mulOk y 41 = true ∧ mulOk (o % 2147483579) 30103 = true ∧ 0 ≤ (y * 41 + o % 2147483579 * 30103 + 7) % 2147483579 ∧ (y * 41 + o % 2147483579 * 30103 + 7) % 2147483579 < 2147483579 := fun o => key y o 41 30103 7 h0 h1 (by decide) (by decide)
    by_cases h : l < ns.length
    · have e : atI (ns.map PyData.int) (l : Int) = some (.int ns[l]) := by
        rw [atI_ofNat (by simpa using h)]
        simp [h]
      obtain ⟨k1, k2, k3, k4⟩ := fin ns[l]
      simp [h, e, gMod_pos, fMul_ok k1, fMul_ok k2, gp, sz3]
      generalize (y * 41 + ns[l] % 2147483579 * 30103 + 7) % 2147483579 = b at *
      by_cases h3 : ns[l] < 0
      · simp [h3, sz3]; exact ⟨k3, k4⟩
      · by_cases h2 : T ≤ ns[l]
        · simp [gp, h3, h2, sz3]; exact ⟨k3, k4⟩
        · simp [gp, h3, h2, sz3]; exact ⟨k3, k4⟩
    · obtain ⟨k1, k2, k3, k4⟩ := fin 0
      simp at k3 k4
      simp [h, gMod_pos, fMul_ok k1, fMul_ok k2, gp, sz3]
      refine ⟨by decide, ?_⟩
      by_cases h2 : T ≤ 0
      · simp [h2, sz3]; exact ⟨k3, k4⟩
      · simp [h2, sz3]; exact ⟨k3, k4⟩
theorem w_right {s : Sto} (v : Vs 100000 s) : WF f_law_right [.s] s fun r _ => r = .d (.bool true) := by
  refine WF.body rfl ?_
  simp [m_law_right, List.replicate_succ, sz2, sz3]
  refine WF.use (w_any (m := 99999) v (by simp) (by simp)) ?_
  rintro _ s1 ⟨x, hx, rfl, v1⟩
  obtain ⟨N, D, rfl, hN1, hN4, hD1, hD3⟩ : ∃ N D : Nat, x = .tuple [.int (N : Int), .int (D : Int)] ∧ 1 ≤ N ∧ N ≤ 4 ∧ 1 ≤ D ∧ D ≤ 3 := by
    simp only [List.mem_cons, List.not_mem_nil, or_false] at hx
    rcases hx with rfl | rfl | rfl
    · exact ⟨3, 3, rfl, by decide, by decide, by decide, by decide⟩
    · exact ⟨3, 3, rfl, by decide, by decide, by decide, by decide⟩
    · exact ⟨4, 2, rfl, by decide, by decide, by decide, by decide⟩
  clear hx
  simp
  refine WF.use (w_world (p := 1) (N := N) (D := D) (m := 90000) (by omega) (by omega) (by omega) (by omega) (by omega) (by omega) v1.mono) ?_
  rintro _ s3 ⟨h, rfl, ok0, hp0, v3⟩
  have ok := HouseOk.to4 ok0 hN4 hD3
  have hn := ok.nN
  have hn1 := ok.n1
  simp [pHouse]
  refine WF.use (w_ends (n := h.stands.length) (m := 70000) (by omega) (by omega) (v3.mono (by omega))) ?_
  rintro _ s5 ⟨es, rfl, eo, v5⟩
  obtain ⟨c, hc, hf, eg⟩ := e_greatest_coming (s := s5) ok (by decide) (by decide) (by omega) eo
  obtain ⟨d, hk, hf2, el⟩ := e_least_coming (s := s5) ok (by decide) (by decide) (by omega) eo
  have hd := hk.ok
  have fix := next_fix ok hc eo hf
  have best := fun e he i hi => cv_top ok hc eo fix (e := e) he (i := i) hi
  have low := fun e he i hi => cv_low ok hk eo hf2 (e := e) he (i := i) hi
  have er := e_ranks_of (s := s5) ok (by decide) (by decide) (by omega) eo
  have esu := e_sure (c := c) (by omega) eg
  have ece := e_certain (c := d) (by omega) el
  have top : ∀ i, i < h.stands.length → _ := fun i hi => any_top ok eo hc best hi
  have bot : ∀ i, i < h.stands.length → _ := fun i hi => all_low ok eo hd low hi
  have rkP : Pn 180 2 900 (.tuple ((List.range h.stands.length).map fun i => iN (rk h es i))) := (Pn.tup (B := 180) (k := 0) (w := 0) (n := 4) (fun x hx => by
    obtain ⟨i, hi, rfl⟩ := List.mem_map.mp hx
    refine Pn.int0 (by decide) (by decide) ?_
    have := rk_le (es := es) ok (List.mem_range.mp hi)
    rw [Int.natAbs_natCast]
    exact Nat.lt_of_lt_of_le (show rk h es i < 2 ^ 8 by omega) (Nat.pow_le_pow_right (by decide) (by decide))) (by rw [List.length_map, List.length_range]; exact hn)).mono (by decide) (by decide)
  have onP : ∀ c, Pn 180 2 900 (.tuple ((onesOf h es c).map iN)) := fun c => (Pn.tup (B := 180) (k := 0) (w := 0) (n := 4) (fun x hx => by
    obtain ⟨k, hk, rfl⟩ := List.mem_map.mp hx
    refine Pn.int0 (by decide) (by decide) ?_
    have := List.mem_range.mp (List.mem_filter.mp hk).1
    rw [Int.natAbs_natCast]
    exact Nat.lt_of_lt_of_le (show k < 2 ^ 8 by omega) (Nat.pow_le_pow_right (by decide) (by decide))) (by rw [List.length_map]; exact Nat.le_trans filt_len hn)).mono (by decide) (by decide)
  have r1 : Pn 180 3 (2 * (900 + 1)) (.list [.tuple ((List.range h.stands.length).map fun i => iN (rk h es i)), .tuple ((List.range h.stands.length).map fun i => iN (rk h es i))]) := Pn.lst (fun x hx => by
    simp only [List.mem_cons, List.not_mem_nil, or_false] at hx
    rcases hx with rfl | rfl <;> exact rkP) (by simp)
  have r2 : Pn 180 3 (4 * (900 + 1)) (.list [.tuple ((onesOf h es c).map iN), .tuple ((onesOf h es d).map iN), .tuple ((onesOf h es d).map iN), .tuple ((onesOf h es c).map iN)]) := Pn.lst (fun x hx => by
    simp only [List.mem_cons, List.not_mem_nil, or_false] at hx
    rcases hx with rfl | rfl | rfl | rfl <;> exact onP _) (by simp)
  have p1 := r1.repr (r := .b _) rfl rfl (by decide) (by decide) (by decide)
  have p2 := r1.repr (r := .f _) rfl rfl (by decide) (by decide) (by decide)
  have p3 := r2.repr (r := .b _) rfl rfl (by decide) (by decide) (by decide)
  have p4 := r2.repr (r := .f _) rfl rfl (by decide) (by decide) (by decide)
  have rl : ((List.range h.stands.length).map fun i => iN (rk h es i)).length = h.stands.length := by simp
  have lall : ∀ e ∈ chs (counts h), Sm (onesOf h es e) := fun e _ => ones_sm ok
  have llen : (chs (counts h)).length ≤ 81 := by
    have a := chs_len (b := 3) (counts h) (fun n hn => by
      obtain ⟨st, hs, rfl⟩ := List.mem_map.mp hn
      exact (ok.each st hs).2.1)
    have b : (counts h).length = h.stands.length := List.length_map _
    rw [b] at a
    exact Nat.le_trans a (Nat.le_trans (Nat.pow_le_pow_right (by decide) hn) (by decide))
  have lnr := e_lranks (s := s5) ok eo
  have lno := e_lones (s := s5) ok (by omega) eo
  simp
  refine WF.of lnr ?_
  generalize (List.range h.stands.length).map (fun i => iN (rk h es i)) = RK at *
  simp
  refine WF.of lno ?_
  have sm1 := lall
  generalize chs (counts h) = L at *
  simp [sz2]
  refine WF.of er ?_
  simp [perm]
  refine WF.of er ?_
  simp [sz2, p1, p2, fEq_strs, frzs, frz1, rl, range1_nat (n := h.stands.length) (by omega)]
  refine WLc_opt (fun i : Nat => PyData.int (i : Nat)) (fun i => if decide (cv h es c i = 1) = true then some (iN i) else none) (List.range h.stands.length) (fun i hi => ?_) ?_
  · rw [List.mem_range] at hi
    simp
    refine WLc_map (fun e => PyData.list ((onesOf h es e).map iN)) (fun e => PyData.bool ((onesOf h es e).contains i)) L (fun e he => ?_) ?_
    · simp [fIn_l (lall e he), -List.contains_eq_mem]
    refine ⟨szle (by rw [List.length_map]; omega), ?_⟩
    have fa : fAny [.f (L.map fun e => PyData.bool ((onesOf h es e).contains i))] = some (.d (.bool (L.any fun e => (onesOf h es e).contains i))) := fAny_of
    rw [top i hi] at fa
    simp only [wa_nil, WO_some]
    simp [fa, -List.contains_eq_mem]
    by_cases q : cv h es c i = 1
    · simp [q, iN]
    · simp [q]
  rw [filterMap_if, show (List.range h.stands.length).filter (fun i => decide (cv h es c i = 1)) = onesOf h es c from rfl]
  refine ⟨szle (by rw [List.length_map]; have := (ones_sm (es := es) (c := c) ok).2; omega), ?_⟩
  simp [frzs, frz1, rl, range1_nat (n := h.stands.length) (by omega)]
  refine WLc_opt (fun i : Nat => PyData.int (i : Nat)) (fun i => if decide (cv h es d i = 1) = true then some (iN i) else none) (List.range h.stands.length) (fun i hi => ?_) ?_
  · rw [List.mem_range] at hi
    simp
    refine WLc_map (fun e => PyData.list ((onesOf h es e).map iN)) (fun e => PyData.bool ((onesOf h es e).contains i)) L (fun e he => ?_) ?_
    · simp [fIn_l (lall e he), -List.contains_eq_mem]
    refine ⟨szle (by rw [List.length_map]; omega), ?_⟩
    have fa : fAll [.f (L.map fun e => PyData.bool ((onesOf h es e).contains i))] = some (.d (.bool (L.all fun e => (onesOf h es e).contains i))) := fAll_of
    rw [bot i hi] at fa
    simp [fa, -List.contains_eq_mem]
    by_cases q : cv h es d i = 1
    · simp [q, iN]
    · simp [q]
  rw [filterMap_if, show (List.range h.stands.length).filter (fun i => decide (cv h es d i = 1)) = onesOf h es d from rfl]
  refine ⟨szle (by rw [List.length_map]; have := (ones_sm (es := es) (c := d) ok).2; omega), ?_⟩
  simp
  refine WF.of esu ?_
  simp
  refine WF.of ece ?_
  simp [sz2, perm]
  refine WF.of ece ?_
  simp [perm]
  refine WF.of esu ?_
  have fa : ∀ x y z w : PyData, fAdd (R.b [x, y]) (R.f [z, w]) = some (R.f [x, y, z, w]) := fun x y z w => by simp [fAdd, sz4]
  simp [sz2, sz4, fa, p3, p4, fEq_strs]
theorem plain (ns : List Int) (hn : ns.length ≤ 63) (hb : ∀ z ∈ ns, Builtin.Int.intBits z ≤ 1048576) : ∃ s', f_law [.d (.list (ns.map .int))] [] = some (.d (.bool true), s') := by
  refine ⟨[], WF.eq (WF.body rfl ?_)⟩
  obtain ⟨n, hn3, e⟩ : ∃ n : Nat, n ≤ 3 ∧ range1 [.d (.int (if (if (ns.length : Int) > 3 then (3 : Int) else (ns.length : Int)) > 1 then (if (ns.length : Int) > 3 then (3 : Int) else (ns.length : Int)) else 1))] = some ((List.range n).map fun i => PyData.int (i : Nat)) := by
    by_cases h : (ns.length : Int) > 3
    · exact ⟨3, by decide, by rw [if_pos h, if_pos (by decide)]; exact range1_nat (n := 3) (by decide)⟩
    · rw [if_neg h]
      by_cases h2 : (ns.length : Int) > 1
      · exact ⟨ns.length, by omega, by rw [if_pos h2]; exact range1_nat (n := ns.length) (by omega)⟩
      · exact ⟨1, by decide, by rw [if_neg h2]; exact range1_nat (n := 1) (by decide)⟩
  simp [m_law, fMin2, fMax2, List.replicate_succ]
  simp only [gt_iff_lt] at e
  rw [e, WO_some]
  refine WLc_map (fun i : Nat => PyData.int i) (fun _ => PyData.bool true) (List.range n) (fun i hi => ?_) ?_
  · rw [List.mem_range] at hi
    simp
    refine WF.use (w_spring (ns := ns) (by omega)) ?_
    rintro _ s' ⟨rfl, a, b, rfl, b0, b1⟩
    simp [callNK, stoOf, onlyD]
    refine WF.use (w_right (s := [a, b, 0]) ⟨a, b, 0, rfl, b0, b1, by decide, by decide⟩) ?_
    rintro _ s' rfl
    simp
  refine ⟨szle (by simp; omega), ?_⟩
  simp [fAll_true]
end WW
namespace WW
open PySem PySem.Spec L2 Dh
section
variable {P : Program} {w : World} {K : PySem.W.Frag} {mg : Str → Option Value} {base : Heap} {ad : Nat → Addr} {fd : Nat → FuncData}
theorem sc_is_whole : FnScope n_is_whole p_is_whole (defScope s_is_whole) := ⟨rfl, rfl, rfl, by decide +kernel, rfl, by decide +kernel, by decide +kernel⟩
theorem bd_is_whole (T : Txt K mg ad fd) : Binds K (fd 0) p_is_whole [] := T.d_is_whole.binds (ps := p_is_whole) fun _ _ _ _ _ _ us hl => match us, hl with | [_], _ => rfl
theorem ok_is_whole (T : Txt K mg ad fd) : FnG P w K mg base 1 (ad 0) (fd 0) p_is_whole (spOf K 1 f_is_whole) := (fnG_of (m := m_is_whole) T.d_is_whole sc_is_whole fun cdv A outer s H E hr hg =>
    (sl_one (ss_ret (se_and (se_isi (T := "int") (by decide) (se_var (i := 0)) T.b_isinstance T.b_int (by decide +kernel)) (se_one (se_not (se_isi (T := "bool") (by decide) (se_var (i := 0)) T.b_isinstance T.b_bool (by decide +kernel)))))))).imp fun _ _ _ _ => spOf_run'
theorem sc_is_between : FnScope n_is_between p_is_between (defScope s_is_between) := ⟨rfl, rfl, rfl, by decide +kernel, rfl, by decide +kernel, by decide +kernel⟩
theorem bd_is_between (T : Txt K mg ad fd) : Binds K (fd 1) p_is_between [] := T.d_is_between.binds (ps := p_is_between) fun _ _ _ _ _ _ us hl => match us, hl with | [_, _, _], _ => rfl
theorem ok_is_between (T : Txt K mg ad fd) : FnG P w K mg base 2 (ad 1) (fd 1) p_is_between (spOf K 3 f_is_between) := (fnG_of (m := m_is_between) T.d_is_between sc_is_between fun cdv A outer s H E hr hg =>
    (sl_one (ss_ret (se_and (se_call (ok_is_whole T) (hr.mono (by omega)) hg T.m_is_whole T.d_is_whole.kp (bd_is_whole T) (sa_cons (se_var (i := 0)) sa_nil)) (se_one (se_lele (se_var (i := 1)) (se_var (i := 0)) (se_var (i := 2)))))))).imp fun _ _ _ _ => spOf_run'
theorem sc_is_tuple_of : FnScope n_is_tuple_of p_is_tuple_of (defScope s_is_tuple_of) := ⟨rfl, rfl, rfl, by decide +kernel, rfl, by decide +kernel, by decide +kernel⟩
theorem bd_is_tuple_of (T : Txt K mg ad fd) : Binds K (fd 2) p_is_tuple_of [] := T.d_is_tuple_of.binds (ps := p_is_tuple_of) fun _ _ _ _ _ _ us hl => match us, hl with | [_, _], _ => rfl
theorem ok_is_tuple_of (T : Txt K mg ad fd) : FnG P w K mg base 1 (ad 2) (fd 2) p_is_tuple_of (spOf K 2 f_is_tuple_of) := (fnG_of (m := m_is_tuple_of) T.d_is_tuple_of sc_is_tuple_of fun cdv A outer s H E hr hg =>
    (sl_one (ss_ret (se_and (se_isi (T := "tuple") (by decide) (se_var (i := 0)) T.b_isinstance T.b_tuple (by decide +kernel)) (se_one (se_eq hr (se_len (sa_cons (se_var (i := 0)) sa_nil) T.b_len) (se_var (i := 1)))))))).imp fun _ _ _ _ => spOf_run'
theorem sc_is_ratio : FnScope n_is_ratio p_is_ratio (defScope s_is_ratio) := ⟨rfl, rfl, rfl, by decide +kernel, rfl, by decide +kernel, by decide +kernel⟩
theorem bd_is_ratio (T : Txt K mg ad fd) : Binds K (fd 3) p_is_ratio [] := T.d_is_ratio.binds (ps := p_is_ratio) fun _ _ _ _ _ _ us hl => match us, hl with | [_], _ => rfl
theorem ok_is_ratio (T : Txt K mg ad fd) : FnG P w K mg base 2 (ad 3) (fd 3) p_is_ratio (spOf K 1 f_is_ratio) := (fnG_of (m := m_is_ratio) T.d_is_ratio sc_is_ratio fun cdv A outer s H E hr hg =>
    (sl_cons (ss_if (sb_w (sw_or (sb_not (sb_val (se_call (ok_is_tuple_of T) (hr.mono (by omega)) hg T.m_is_tuple_of T.d_is_tuple_of.kp (bd_is_tuple_of T) (sa_cons (se_var (i := 0)) (sa_cons se_int sa_nil))))) (sw_or (sb_not (sb_val (se_call (ok_is_whole T) (hr.mono (by omega)) hg T.m_is_whole T.d_is_whole.kp (bd_is_whole T) (sa_cons (se_ix (se_var (i := 0)) se_int) sa_nil)))) (sw_or1 (sb_not (sb_val (se_call (ok_is_whole T) (hr.mono (by omega)) hg T.m_is_whole T.d_is_whole.kp (bd_is_whole T) (sa_cons (se_ix (se_var (i := 0)) se_int) sa_nil))))))))
    (sl_one (ss_ret se_bl))
    sl_nil)
    (sl_one (ss_ret (se_and (se_gt (se_ix (se_var (i := 0)) se_int) se_int) (se_one (se_eq hr (se_gcd (sa_cons (se_ix (se_var (i := 0)) se_int) (sa_cons (se_ix (se_var (i := 0)) se_int) sa_nil)) T.b_gcd) se_int))))))).imp fun _ _ _ _ => spOf_run'
theorem sc_is_row : FnScope n_is_row p_is_row (defScope s_is_row) := ⟨rfl, rfl, rfl, by decide +kernel, rfl, by decide +kernel, by decide +kernel⟩
theorem bd_is_row (T : Txt K mg ad fd) : Binds K (fd 4) p_is_row [] := T.d_is_row.binds (ps := p_is_row) fun _ _ _ _ _ _ us hl => match us, hl with | [_, _], _ => rfl
theorem ok_is_row (T : Txt K mg ad fd) : FnG P w K mg base 3 (ad 4) (fd 4) p_is_row (spOf K 2 f_is_row) := (fnG_of (m := m_is_row) T.d_is_row sc_is_row fun cdv A outer s H E hr hg =>
    (sl_one (ss_ret (se_and (se_call (ok_is_tuple_of T) (hr.mono (by omega)) hg T.m_is_tuple_of T.d_is_tuple_of.kp (bd_is_tuple_of T) (sa_cons (se_var (i := 0)) (sa_cons (se_var (i := 1)) sa_nil))) (se_one (se_all rfl (sa_cons (se_lc (own := [("each", 2)]) (is := [2]) rfl sc_is_row.nd (si_seq (se_var (i := 0))) (blkOk_by (own := [("each", 2)]) (N := n_is_row) (sc := defScope s_is_row) (by decide +kernel)) (by decide) (fun _ _ _ _ _ => (sg_name (i := 2) sc_is_row.nd)) (fun _ _ _ _ _ => sts_nil) (fun _ _ _ _ _ => (se_call (ok_is_ratio T) (hr.mono (by omega)) hg T.m_is_ratio T.d_is_ratio.kp (bd_is_ratio T) (sa_cons (se_var (i := 2)) sa_nil)))) sa_nil) T.b_all)))))).imp fun _ _ _ _ => spOf_run'
theorem sc_ratio : FnScope n_ratio p_ratio (defScope s_ratio) := ⟨rfl, rfl, rfl, by decide +kernel, rfl, by decide +kernel, by decide +kernel⟩
theorem bd_ratio (T : Txt K mg ad fd) : Binds K (fd 5) p_ratio [] := T.d_ratio.binds (ps := p_ratio) fun _ _ _ _ _ _ us hl => match us, hl with | [_, _], _ => rfl
theorem ok_ratio (T : Txt K mg ad fd) : FnG P w K mg base 1 (ad 5) (fd 5) p_ratio (spOf K 2 f_ratio) := (fnG_of (m := m_ratio) T.d_ratio sc_ratio fun cdv A outer s H E hr hg =>
    (sl_cons (ss_set (i := 2) sc_ratio.nd rfl (.inl rfl) (se_if (sb_gt (se_var (i := 1)) se_int) (se_gcd (sa_cons (se_var (i := 0)) (sa_cons (se_var (i := 1)) sa_nil)) T.b_gcd) (se_neg (se_gcd (sa_cons (se_var (i := 0)) (sa_cons (se_var (i := 1)) sa_nil)) T.b_gcd))))
    (sl_one (ss_ret (se_tup (sa_cons (se_fdiv (se_var (i := 0)) (se_var (i := 2))) (sa_cons (se_fdiv (se_var (i := 1)) (se_var (i := 2))) sa_nil))))))).imp fun _ _ _ _ => spOf_run'
theorem sc_plus : FnScope n_plus p_plus (defScope s_plus) := ⟨rfl, rfl, rfl, by decide +kernel, rfl, by decide +kernel, by decide +kernel⟩
theorem bd_plus (T : Txt K mg ad fd) : Binds K (fd 6) p_plus [] := T.d_plus.binds (ps := p_plus) fun _ _ _ _ _ _ us hl => match us, hl with | [_, _], _ => rfl
theorem ok_plus (T : Txt K mg ad fd) : FnG P w K mg base 2 (ad 6) (fd 6) p_plus (spOf K 2 f_plus) := (fnG_of (m := m_plus) T.d_plus sc_plus fun cdv A outer s H E hr hg =>
    (sl_one (ss_ret (se_call (ok_ratio T) (hr.mono (by omega)) hg T.m_ratio T.d_ratio.kp (bd_ratio T) (sa_cons (se_add (se_mul (se_ix (se_var (i := 0)) se_int) (se_ix (se_var (i := 1)) se_int)) (se_mul (se_ix (se_var (i := 1)) se_int) (se_ix (se_var (i := 0)) se_int))) (sa_cons (se_mul (se_ix (se_var (i := 0)) se_int) (se_ix (se_var (i := 1)) se_int)) sa_nil)))))).imp fun _ _ _ _ => spOf_run'
theorem sc_minus : FnScope n_minus p_minus (defScope s_minus) := ⟨rfl, rfl, rfl, by decide +kernel, rfl, by decide +kernel, by decide +kernel⟩
theorem bd_minus (T : Txt K mg ad fd) : Binds K (fd 7) p_minus [] := T.d_minus.binds (ps := p_minus) fun _ _ _ _ _ _ us hl => match us, hl with | [_, _], _ => rfl
theorem ok_minus (T : Txt K mg ad fd) : FnG P w K mg base 2 (ad 7) (fd 7) p_minus (spOf K 2 f_minus) := (fnG_of (m := m_minus) T.d_minus sc_minus fun cdv A outer s H E hr hg =>
    (sl_one (ss_ret (se_call (ok_ratio T) (hr.mono (by omega)) hg T.m_ratio T.d_ratio.kp (bd_ratio T) (sa_cons (se_sub (se_mul (se_ix (se_var (i := 0)) se_int) (se_ix (se_var (i := 1)) se_int)) (se_mul (se_ix (se_var (i := 1)) se_int) (se_ix (se_var (i := 0)) se_int))) (sa_cons (se_mul (se_ix (se_var (i := 0)) se_int) (se_ix (se_var (i := 1)) se_int)) sa_nil)))))).imp fun _ _ _ _ => spOf_run'
theorem sc_times : FnScope n_times p_times (defScope s_times) := ⟨rfl, rfl, rfl, by decide +kernel, rfl, by decide +kernel, by decide +kernel⟩
theorem bd_times (T : Txt K mg ad fd) : Binds K (fd 8) p_times [] := T.d_times.binds (ps := p_times) fun _ _ _ _ _ _ us hl => match us, hl with | [_, _], _ => rfl
theorem ok_times (T : Txt K mg ad fd) : FnG P w K mg base 2 (ad 8) (fd 8) p_times (spOf K 2 f_times) := (fnG_of (m := m_times) T.d_times sc_times fun cdv A outer s H E hr hg =>
    (sl_one (ss_ret (se_call (ok_ratio T) (hr.mono (by omega)) hg T.m_ratio T.d_ratio.kp (bd_ratio T) (sa_cons (se_mul (se_ix (se_var (i := 0)) se_int) (se_ix (se_var (i := 1)) se_int)) (sa_cons (se_mul (se_ix (se_var (i := 0)) se_int) (se_ix (se_var (i := 1)) se_int)) sa_nil)))))).imp fun _ _ _ _ => spOf_run'
theorem sc_over : FnScope n_over p_over (defScope s_over) := ⟨rfl, rfl, rfl, by decide +kernel, rfl, by decide +kernel, by decide +kernel⟩
theorem bd_over (T : Txt K mg ad fd) : Binds K (fd 9) p_over [] := T.d_over.binds (ps := p_over) fun _ _ _ _ _ _ us hl => match us, hl with | [_, _], _ => rfl
theorem ok_over (T : Txt K mg ad fd) : FnG P w K mg base 2 (ad 9) (fd 9) p_over (spOf K 2 f_over) := (fnG_of (m := m_over) T.d_over sc_over fun cdv A outer s H E hr hg =>
    (sl_one (ss_ret (se_call (ok_ratio T) (hr.mono (by omega)) hg T.m_ratio T.d_ratio.kp (bd_ratio T) (sa_cons (se_mul (se_ix (se_var (i := 0)) se_int) (se_ix (se_var (i := 1)) se_int)) (sa_cons (se_mul (se_ix (se_var (i := 0)) se_int) (se_ix (se_var (i := 1)) se_int)) sa_nil)))))).imp fun _ _ _ _ => spOf_run'
theorem sc_is_less : FnScope n_is_less p_is_less (defScope s_is_less) := ⟨rfl, rfl, rfl, by decide +kernel, rfl, by decide +kernel, by decide +kernel⟩
theorem bd_is_less (T : Txt K mg ad fd) : Binds K (fd 10) p_is_less [] := T.d_is_less.binds (ps := p_is_less) fun _ _ _ _ _ _ us hl => match us, hl with | [_, _], _ => rfl
theorem ok_is_less (T : Txt K mg ad fd) : FnG P w K mg base 1 (ad 10) (fd 10) p_is_less (spOf K 2 f_is_less) := (fnG_of (m := m_is_less) T.d_is_less sc_is_less fun cdv A outer s H E hr hg =>
    (sl_one (ss_ret (se_lt (se_mul (se_ix (se_var (i := 0)) se_int) (se_ix (se_var (i := 1)) se_int)) (se_mul (se_ix (se_var (i := 1)) se_int) (se_ix (se_var (i := 0)) se_int)))))).imp fun _ _ _ _ => spOf_run'
theorem sc_total : FnScope n_total p_total (defScope s_total) := ⟨rfl, rfl, rfl, by decide +kernel, rfl, by decide +kernel, by decide +kernel⟩
theorem bd_total (T : Txt K mg ad fd) : Binds K (fd 11) p_total [] := T.d_total.binds (ps := p_total) fun _ _ _ _ _ _ us hl => match us, hl with | [_], _ => rfl
theorem ok_total (T : Txt K mg ad fd) : FnG P w K mg base 3 (ad 11) (fd 11) p_total (spOf K 1 f_total) := (fnG_of (m := m_total) T.d_total sc_total fun cdv A outer s H E hr hg =>
    (sl_cons (ss_set (i := 1) sc_total.nd rfl (.inl rfl) (se_glob T.g_ZERO (by rfl)))
    (sl_cons (ss_for PassesOwn.never rfl (si_seq (se_var (i := 0))) (sg_name (i := 2) sc_total.nd)
    (sl_one (ss_set (i := 1) sc_total.nd rfl (.inl rfl) (se_call (ok_plus T) (hr.mono (by omega)) hg T.m_plus T.d_plus.kp (bd_plus T) (sa_cons (se_var (i := 1)) (sa_cons (se_var (i := 2)) sa_nil))))))
    (sl_one (ss_retV (i := 1)))))).imp fun _ _ _ _ => spOf_run'
theorem sc_less_row : FnScope n_less_row p_less_row (defScope s_less_row) := ⟨rfl, rfl, rfl, by decide +kernel, rfl, by decide +kernel, by decide +kernel⟩
theorem bd_less_row (T : Txt K mg ad fd) : Binds K (fd 12) p_less_row [] := T.d_less_row.binds (ps := p_less_row) fun _ _ _ _ _ _ us hl => match us, hl with | [_, _, _], _ => rfl
theorem ok_less_row (T : Txt K mg ad fd) : FnG P w K mg base 3 (ad 12) (fd 12) p_less_row (spOf K 3 f_less_row) := (fnG_of (m := m_less_row) T.d_less_row sc_less_row fun cdv A outer s H E hr hg =>
    (sl_one (ss_ret (se_lc (own := [("here", 3), ("there", 4)]) (is := [3, 4]) rfl sc_less_row.nd (si_z2 (sa_cons (se_var (i := 0)) (sa_cons (se_var (i := 1)) sa_nil)) T.b_zip) (blkOk_by (own := [("here", 3), ("there", 4)]) (N := n_less_row) (sc := defScope s_less_row) (by decide +kernel)) (by decide) (fun _ _ _ _ _ => (sg_tup rfl (sgs_cons (sg_name (i := 3) sc_less_row.nd) (sgs_cons (sg_name (i := 4) sc_less_row.nd) sgs_nil)))) (fun _ _ _ _ _ => sts_nil) (fun _ _ _ _ _ => (se_call (ok_minus T) (hr.mono (by omega)) hg T.m_minus T.d_minus.kp (bd_minus T) (sa_cons (se_var (i := 3)) (sa_cons (se_call (ok_times T) (hr.mono (by omega)) hg T.m_times T.d_times.kp (bd_times T) (sa_cons (se_var (i := 2)) (sa_cons (se_var (i := 4)) sa_nil))) sa_nil)))))))).imp fun _ _ _ _ => spOf_run'
theorem sc_answers_of : FnScope n_answers_of p_answers_of (defScope s_answers_of) := ⟨rfl, rfl, rfl, by decide +kernel, rfl, by decide +kernel, by decide +kernel⟩
theorem bd_answers_of (T : Txt K mg ad fd) : Binds K (fd 13) p_answers_of [] := T.d_answers_of.binds (ps := p_answers_of) fun _ _ _ _ _ _ us hl => match us, hl with | [_, _], _ => rfl
theorem ok_answers_of (T : Txt K mg ad fd) : FnG P w K mg base 4 (ad 13) (fd 13) p_answers_of (spOf K 2 f_answers_of) := (fnG_of (m := m_answers_of) T.d_answers_of sc_answers_of fun cdv A outer s H E hr hg =>
    (sl_cons (ss_set (i := 2) sc_answers_of.nd rfl (.inr rfl) (se_lc (own := [("row", 7), ("right", 8)]) (is := [7, 8]) rfl sc_answers_of.nd (si_z2 (sa_cons (se_var (i := 0)) (sa_cons (se_var (i := 1)) sa_nil)) T.b_zip) (blkOk_by (own := [("row", 7), ("right", 8)]) (N := n_answers_of) (sc := defScope s_answers_of) (by decide +kernel)) (by decide) (fun _ _ _ _ _ => (sg_tup rfl (sgs_cons (sg_name (i := 7) sc_answers_of.nd) (sgs_cons (sg_name (i := 8) sc_answers_of.nd) sgs_nil)))) (fun _ _ _ _ _ => sts_nil) (fun _ _ _ _ _ => (se_add (se_list (sa_cons (se_var (i := 7)) sa_nil) T.b_list) (se_list (sa_cons (se_var (i := 8)) sa_nil) T.b_list)))))
    (sl_cons (ss_set (i := 3) sc_answers_of.nd rfl (.inr rfl) (se_len (sa_cons (se_var (i := 0)) sa_nil) T.b_len))
    (sl_cons (ss_for PassesOwn.never rfl (si_range1 (sa_cons (se_var (i := 3)) sa_nil) T.b_range) (sg_name (i := 4) sc_answers_of.nd)
    (sl_cons (ss_set (i := 5) sc_answers_of.nd rfl (.inl rfl) (se_ix (se_lc (own := [("at", 9)]) (is := [9]) rfl sc_answers_of.nd (si_range2 (sa_cons (se_var (i := 4)) (sa_cons (se_var (i := 3)) sa_nil)) T.b_range) (blkOk_by (own := [("at", 9)]) (N := n_answers_of) (sc := defScope s_answers_of) (by decide +kernel)) (by decide) (fun _ _ _ _ _ => (sg_name (i := 9) sc_answers_of.nd)) (fun _ _ _ _ _ => sts_one (sb_ne hr (se_ix (se_ix (se_var (i := 2)) (se_var (i := 9))) (se_var (i := 4))) (se_glob T.g_ZERO (by rfl)))) (fun _ _ _ _ _ => (se_var (i := 9)))) se_int))
    (sl_cons (ss_swap rfl (se_tup (sa_cons (se_ix (se_var (i := 2)) (se_var (i := 5))) (sa_cons (se_ix (se_var (i := 2)) (se_var (i := 4))) sa_nil))) (pg_sub (pv 2) (se_var (i := 4)) set_list) (pg_sub (pv 2) (se_var (i := 5)) set_list))
    (sl_cons (ss_set (i := 6) sc_answers_of.nd rfl (.inr rfl) (se_lc (own := [("each", 10)]) (is := [10]) rfl sc_answers_of.nd (si_seq (se_ix (se_var (i := 2)) (se_var (i := 4)))) (blkOk_by (own := [("each", 10)]) (N := n_answers_of) (sc := defScope s_answers_of) (by decide +kernel)) (by decide) (fun _ _ _ _ _ => (sg_name (i := 10) sc_answers_of.nd)) (fun _ _ _ _ _ => sts_nil) (fun _ _ _ _ _ => (se_call (ok_over T) (hr.mono (by omega)) hg T.m_over T.d_over.kp (bd_over T) (sa_cons (se_var (i := 10)) (sa_cons (se_ix (se_ix (se_var (i := 2)) (se_var (i := 4))) (se_var (i := 4))) sa_nil))))))
    (sl_cons (ss_frz [2, 6] (ss_set (i := 2) sc_answers_of.nd rfl (.inr rfl) (se_lc (own := [("row", 7)]) (is := [7]) rfl sc_answers_of.nd (si_seq (se_var (i := 2))) (blkOk_by (own := [("row", 7)]) (N := n_answers_of) (sc := defScope s_answers_of) (by decide +kernel)) (by decide) (fun _ _ _ _ _ => (sg_name (i := 7) sc_answers_of.nd)) (fun _ _ _ _ _ => sts_nil) (fun _ _ _ _ _ => (se_call (ok_less_row T) (hr.mono (by omega)) hg T.m_less_row T.d_less_row.kp (bd_less_row T) (sa_cons (se_var (i := 7)) (sa_cons (se_var (i := 6)) (sa_cons (se_ix (se_var (i := 7)) (se_var (i := 4))) sa_nil))))))))
    (sl_one (ss_frz [6] (ss_put (i := 2) (se_var (i := 6)) (pg_sub (pv 2) (se_var (i := 4)) set_list)))))))))
    (sl_one (ss_frz [2] (ss_ret (se_lc (own := [("row", 7)]) (is := [7]) rfl sc_answers_of.nd (si_seq (se_var (i := 2))) (blkOk_by (own := [("row", 7)]) (N := n_answers_of) (sc := defScope s_answers_of) (by decide +kernel)) (by decide) (fun _ _ _ _ _ => (sg_name (i := 7) sc_answers_of.nd)) (fun _ _ _ _ _ => sts_nil) (fun _ _ _ _ _ => (se_tuple (sa_cons (se_sl (se_var (i := 7)) (so_some (se_var (i := 3))) so_none) sa_nil) T.b_tuple)))))))))).imp fun _ _ _ _ => spOf_run'
theorem sc_are_chances : FnScope n_are_chances p_are_chances (defScope s_are_chances) := ⟨rfl, rfl, rfl, by decide +kernel, rfl, by decide +kernel, by decide +kernel⟩
theorem bd_are_chances (T : Txt K mg ad fd) : Binds K (fd 14) p_are_chances [] := T.d_are_chances.binds (ps := p_are_chances) fun _ _ _ _ _ _ us hl => match us, hl with | [_, _], _ => rfl
theorem ok_are_chances (T : Txt K mg ad fd) : FnG P w K mg base 4 (ad 14) (fd 14) p_are_chances (spOf K 2 f_are_chances) := (fnG_of (m := m_are_chances) T.d_are_chances sc_are_chances fun cdv A outer s H E hr hg =>
    (sl_cons (ss_if (sb_w (sw_or (sb_not (sb_val (se_isi (T := "tuple") (by decide) (se_var (i := 0)) T.b_isinstance T.b_tuple (by decide +kernel)))) (sw_or1 (sb_not (sb_val (se_all rfl (sa_cons (se_lc (own := [("each", 3)]) (is := [3]) rfl sc_are_chances.nd (si_seq (se_var (i := 0))) (blkOk_by (own := [("each", 3)]) (N := n_are_chances) (sc := defScope s_are_chances) (by decide +kernel)) (by decide) (fun _ _ _ _ _ => (sg_name (i := 3) sc_are_chances.nd)) (fun _ _ _ _ _ => sts_nil) (fun _ _ _ _ _ => (se_call (ok_is_tuple_of T) (hr.mono (by omega)) hg T.m_is_tuple_of T.d_is_tuple_of.kp (bd_is_tuple_of T) (sa_cons (se_var (i := 3)) (sa_cons se_int sa_nil))))) sa_nil) T.b_all))))))
    (sl_one (ss_ret se_bl))
    sl_nil)
    (sl_cons (ss_if (sb_not (sb_val (se_all rfl (sa_cons (se_lc (own := [("stand", 4), ("chance", 5)]) (is := [4, 5]) rfl sc_are_chances.nd (si_seq (se_var (i := 0))) (blkOk_by (own := [("stand", 4), ("chance", 5)]) (N := n_are_chances) (sc := defScope s_are_chances) (by decide +kernel)) (by decide) (fun _ _ _ _ _ => (sg_tup rfl (sgs_cons (sg_name (i := 4) sc_are_chances.nd) (sgs_cons (sg_name (i := 5) sc_are_chances.nd) sgs_nil)))) (fun _ _ _ _ _ => sts_nil) (fun _ _ _ _ _ => (se_and (se_call (ok_is_between T) (hr.mono (by omega)) hg T.m_is_between T.d_is_between.kp (bd_is_between T) (sa_cons (se_var (i := 4)) (sa_cons se_int (sa_cons (se_sub (se_var (i := 1)) se_int) sa_nil)))) (se_and (se_call (ok_is_ratio T) (hr.mono (by omega)) hg T.m_is_ratio T.d_is_ratio.kp (bd_is_ratio T) (sa_cons (se_var (i := 5)) sa_nil)) (se_one (se_gt (se_ix (se_var (i := 5)) se_int) se_int)))))) sa_nil) T.b_all)))
    (sl_one (ss_ret se_bl))
    sl_nil)
    (sl_cons (ss_setLc (i := 2) (own := [("stand", 4), ("_", 6)]) (is := [4, 6]) rfl sc_are_chances.nd rfl rfl (sw_true rfl rfl rfl (by decide +kernel)) (si_seq (se_var (i := 0))) (blkOk_by (own := [("stand", 4), ("_", 6)]) (N := n_are_chances) (sc := defScope s_are_chances) (by decide +kernel)) (by decide) (fun _ _ _ _ _ => (sg_tup rfl (sgs_cons (sg_name (i := 4) sc_are_chances.nd) (sgs_cons (sg_name (i := 6) sc_are_chances.nd) sgs_nil)))) (fun _ _ _ _ _ => sts_nil) (fun _ _ _ _ _ => (se_var (i := 4))))
    (sl_one (ss_frz [2] (ss_ret (se_and (se_all rfl (sa_cons (se_lc (own := [("one", 7), ("two", 8)]) (is := [7, 8]) rfl sc_are_chances.nd (si_z2 (sa_cons (se_var (i := 2)) (sa_cons (se_sl (se_var (i := 2)) (so_some se_int) so_none) sa_nil)) T.b_zip) (blkOk_by (own := [("one", 7), ("two", 8)]) (N := n_are_chances) (sc := defScope s_are_chances) (by decide +kernel)) (by decide) (fun _ _ _ _ _ => (sg_tup rfl (sgs_cons (sg_name (i := 7) sc_are_chances.nd) (sgs_cons (sg_name (i := 8) sc_are_chances.nd) sgs_nil)))) (fun _ _ _ _ _ => sts_nil) (fun _ _ _ _ _ => (se_lt (se_var (i := 7)) (se_var (i := 8))))) sa_nil) T.b_all) (se_one (se_eq hr (se_call (ok_total T) (hr.mono (by omega)) hg T.m_total T.d_total.kp (bd_total T) (sa_cons (se_lc (own := [("_", 6), ("chance", 5)]) (is := [6, 5]) rfl sc_are_chances.nd (si_seq (se_var (i := 0))) (blkOk_by (own := [("_", 6), ("chance", 5)]) (N := n_are_chances) (sc := defScope s_are_chances) (by decide +kernel)) (by decide) (fun _ _ _ _ _ => (sg_tup rfl (sgs_cons (sg_name (i := 6) sc_are_chances.nd) (sgs_cons (sg_name (i := 5) sc_are_chances.nd) sgs_nil)))) (fun _ _ _ _ _ => sts_nil) (fun _ _ _ _ _ => (se_var (i := 5)))) sa_nil)) (se_glob T.g_ONE (by rfl)))))))))))).imp fun _ _ _ _ => spOf_run'
theorem sc_is_deed : FnScope n_is_deed p_is_deed (defScope s_is_deed) := ⟨rfl, rfl, rfl, by decide +kernel, rfl, by decide +kernel, by decide +kernel⟩
theorem bd_is_deed (T : Txt K mg ad fd) : Binds K (fd 15) p_is_deed [] := T.d_is_deed.binds (ps := p_is_deed) fun _ _ _ _ _ _ us hl => match us, hl with | [_, _, _], _ => rfl
theorem ok_is_deed (T : Txt K mg ad fd) : FnG P w K mg base 5 (ad 15) (fd 15) p_is_deed (spOf K 3 f_is_deed) := (fnG_of (m := m_is_deed) T.d_is_deed sc_is_deed fun cdv A outer s H E hr hg =>
    (sl_one (ss_ret (se_and (se_call (ok_is_tuple_of T) (hr.mono (by omega)) hg T.m_is_tuple_of T.d_is_tuple_of.kp (bd_is_tuple_of T) (sa_cons (se_var (i := 0)) (sa_cons se_int sa_nil))) (se_and (se_call (ok_are_chances T) (hr.mono (by omega)) hg T.m_are_chances T.d_are_chances.kp (bd_are_chances T) (sa_cons (se_ix (se_var (i := 0)) se_int) (sa_cons (se_var (i := 2)) sa_nil))) (se_one (se_call (ok_is_row T) (hr.mono (by omega)) hg T.m_is_row T.d_is_row.kp (bd_is_row T) (sa_cons (se_ix (se_var (i := 0)) se_int) (sa_cons (se_var (i := 1)) sa_nil))))))))).imp fun _ _ _ _ => spOf_run'
end
end WW
namespace WW
open PySem PySem.Spec L2 Dh
section
variable {P : Program} {w : World} {K : PySem.W.Frag} {mg : Str → Option Value} {base : Heap} {ad : Nat → Addr} {fd : Nat → FuncData}
theorem sc_is_stand : FnScope n_is_stand p_is_stand (defScope s_is_stand) := ⟨rfl, rfl, rfl, by decide +kernel, rfl, by decide +kernel, by decide +kernel⟩
theorem bd_is_stand (T : Txt K mg ad fd) : Binds K (fd 16) p_is_stand [] := T.d_is_stand.binds (ps := p_is_stand) fun _ _ _ _ _ _ us hl => match us, hl with | [_, _, _], _ => rfl
theorem ok_is_stand (T : Txt K mg ad fd) : FnG P w K mg base 6 (ad 16) (fd 16) p_is_stand (spOf K 3 f_is_stand) := (fnG_of (m := m_is_stand) T.d_is_stand sc_is_stand fun cdv A outer s H E hr hg =>
    (sl_cons (ss_if (sb_w (sw_or (sb_not (sb_val (se_isi (T := "tuple") (by decide) (se_var (i := 0)) T.b_isinstance T.b_tuple (by decide +kernel)))) (sw_or1 (sb_not (sb_val (se_call (ok_is_between T) (hr.mono (by omega)) hg T.m_is_between T.d_is_between.kp (bd_is_between T) (sa_cons (se_len (sa_cons (se_var (i := 0)) sa_nil) T.b_len) (sa_cons se_int (sa_cons (se_glob T.g_MOST_DEEDS (by rfl)) sa_nil)))))))))
    (sl_one (ss_ret se_bl))
    sl_nil)
    (sl_one (ss_ret (se_all rfl (sa_cons (se_lc (own := [("each", 3)]) (is := [3]) rfl sc_is_stand.nd (si_seq (se_var (i := 0))) (blkOk_by (own := [("each", 3)]) (N := n_is_stand) (sc := defScope s_is_stand) (by decide +kernel)) (by decide) (fun _ _ _ _ _ => (sg_name (i := 3) sc_is_stand.nd)) (fun _ _ _ _ _ => sts_nil) (fun _ _ _ _ _ => (se_call (ok_is_deed T) (hr.mono (by omega)) hg T.m_is_deed T.d_is_deed.kp (bd_is_deed T) (sa_cons (se_var (i := 3)) (sa_cons (se_var (i := 1)) (sa_cons (se_var (i := 2)) sa_nil)))))) sa_nil) T.b_all))))).imp fun _ _ _ _ => spOf_run'
theorem sc_is_share : FnScope n_is_share p_is_share (defScope s_is_share) := ⟨rfl, rfl, rfl, by decide +kernel, rfl, by decide +kernel, by decide +kernel⟩
theorem bd_is_share (T : Txt K mg ad fd) : Binds K (fd 17) p_is_share [] := T.d_is_share.binds (ps := p_is_share) fun _ _ _ _ _ _ us hl => match us, hl with | [_], _ => rfl
theorem ok_is_share (T : Txt K mg ad fd) : FnG P w K mg base 3 (ad 17) (fd 17) p_is_share (spOf K 1 f_is_share) := (fnG_of (m := m_is_share) T.d_is_share sc_is_share fun cdv A outer s H E hr hg =>
    (sl_one (ss_ret (se_and (se_call (ok_is_ratio T) (hr.mono (by omega)) hg T.m_is_ratio T.d_is_ratio.kp (bd_is_ratio T) (sa_cons (se_var (i := 0)) sa_nil)) (se_one (se_lelt se_int (se_ix (se_var (i := 0)) se_int) (se_ix (se_var (i := 0)) se_int))))))).imp fun _ _ _ _ => spOf_run'
theorem sc_is_house_by : FnScope n_is_house_by p_is_house_by (defScope s_is_house_by) := ⟨rfl, rfl, rfl, by decide +kernel, rfl, by decide +kernel, by decide +kernel⟩
theorem bd_is_house_by (T : Txt K mg ad fd) : Binds K (fd 18) p_is_house_by [] := T.d_is_house_by.binds (ps := p_is_house_by) fun _ _ _ _ _ _ us hl => match us, hl with | [_], _ => rfl
theorem ok_is_house_by (T : Txt K mg ad fd) : FnG P w K mg base 7 (ad 18) (fd 18) p_is_house_by (spOf K 1 f_is_house_by) := (fnG_of (m := m_is_house_by) T.d_is_house_by sc_is_house_by fun cdv A outer s H E hr hg =>
    (sl_cons (ss_if (sb_w (sw_or (sb_not (sb_val (se_call (ok_is_tuple_of T) (hr.mono (by omega)) hg T.m_is_tuple_of T.d_is_tuple_of.kp (bd_is_tuple_of T) (sa_cons (se_var (i := 0)) (sa_cons se_int sa_nil))))) (sw_or (sb_not (sb_val (se_call (ok_is_share T) (hr.mono (by omega)) hg T.m_is_share T.d_is_share.kp (bd_is_share T) (sa_cons (se_ix (se_var (i := 0)) se_int) sa_nil)))) (sw_or1 (sb_not (sb_val (se_call (ok_is_between T) (hr.mono (by omega)) hg T.m_is_between T.d_is_between.kp (bd_is_between T) (sa_cons (se_ix (se_var (i := 0)) se_int) (sa_cons se_int (sa_cons (se_glob T.g_MOST_PAYS (by rfl)) sa_nil))))))))))
    (sl_one (ss_ret se_bl))
    sl_nil)
    (sl_cons (ss_set (i := 1) sc_is_house_by.nd rfl (.inr rfl) (se_ix (se_var (i := 0)) se_int))
    (sl_cons (ss_if (sb_w (sw_or (sb_not (sb_val (se_isi (T := "tuple") (by decide) (se_var (i := 1)) T.b_isinstance T.b_tuple (by decide +kernel)))) (sw_or1 (sb_not (sb_val (se_call (ok_is_between T) (hr.mono (by omega)) hg T.m_is_between T.d_is_between.kp (bd_is_between T) (sa_cons (se_len (sa_cons (se_var (i := 1)) sa_nil) T.b_len) (sa_cons se_int (sa_cons (se_glob T.g_MOST_STANDS (by rfl)) sa_nil)))))))))
    (sl_one (ss_ret se_bl))
    sl_nil)
    (sl_one (ss_ret (se_all rfl (sa_cons (se_lc (own := [("each", 2)]) (is := [2]) rfl sc_is_house_by.nd (si_seq (se_var (i := 1))) (blkOk_by (own := [("each", 2)]) (N := n_is_house_by) (sc := defScope s_is_house_by) (by decide +kernel)) (by decide) (fun _ _ _ _ _ => (sg_name (i := 2) sc_is_house_by.nd)) (fun _ _ _ _ _ => sts_nil) (fun _ _ _ _ _ => (se_call (ok_is_stand T) (hr.mono (by omega)) hg T.m_is_stand T.d_is_stand.kp (bd_is_stand T) (sa_cons (se_var (i := 2)) (sa_cons (se_ix (se_var (i := 0)) se_int) (sa_cons (se_len (sa_cons (se_var (i := 1)) sa_nil) T.b_len) sa_nil)))))) sa_nil) T.b_all))))))).imp fun _ _ _ _ => spOf_run'
theorem sc_check_house : FnScope n_check_house p_check_house (defScope s_check_house) := ⟨rfl, rfl, rfl, by decide +kernel, rfl, by decide +kernel, by decide +kernel⟩
theorem bd_check_house (T : Txt K mg ad fd) : Binds K (fd 19) p_check_house [] := T.d_check_house.binds (ps := p_check_house) fun _ _ _ _ _ _ us hl => match us, hl with | [_], _ => rfl
theorem ok_check_house (T : Txt K mg ad fd) : FnG P w K mg base 8 (ad 19) (fd 19) p_check_house (spOf K 1 f_check_house) := (fnG_of (m := m_check_house) T.d_check_house sc_check_house fun cdv A outer s H E hr hg =>
    (sl_one (ss_if (sb_not (sb_val (se_call (ok_is_house_by T) (hr.mono (by omega)) hg T.m_is_house_by T.d_is_house_by.kp (bd_is_house_by T) (sa_cons (se_var (i := 0)) sa_nil))))
    (sl_one ss_never)
    sl_nil))).imp fun _ _ _ _ => spOf_run'
theorem sc_wrong_goal : FnScope n_wrong_goal p_wrong_goal (defScope s_wrong_goal) := ⟨rfl, rfl, rfl, by decide +kernel, rfl, by decide +kernel, by decide +kernel⟩
theorem bd_wrong_goal (T : Txt K mg ad fd) : Binds K (fd 20) p_wrong_goal [] := T.d_wrong_goal.binds (ps := p_wrong_goal) fun _ _ _ _ _ _ us hl => match us, hl with | [_, _], _ => rfl
theorem ok_wrong_goal (T : Txt K mg ad fd) : FnG P w K mg base 1 (ad 20) (fd 20) p_wrong_goal (spOf K 2 f_wrong_goal) := (fnG_of (m := m_wrong_goal) T.d_wrong_goal sc_wrong_goal fun cdv A outer s H E hr hg =>
    (sl_cons (ss_for PassesOwn.never rfl (si_enum (sa_cons (se_var (i := 1)) sa_nil) T.b_enumerate) (sg_tup rfl (sgs_cons (sg_name (i := 2) sc_wrong_goal.nd) (sgs_cons (sg_name (i := 3) sc_wrong_goal.nd) sgs_nil)))
    (sl_cons (ss_if (sb_w (sw_or (sb_not (sb_val (se_isi (T := "int") (by decide) (se_var (i := 3)) T.b_isinstance T.b_int (by decide +kernel)))) (sw_or (sb_val (se_isi (T := "bool") (by decide) (se_var (i := 3)) T.b_isinstance T.b_bool (by decide +kernel))) (sw_or1 (sb_not (sb_lelt se_int (se_var (i := 3)) (se_len (sa_cons (se_ix (se_var (i := 0)) se_int) sa_nil) T.b_len)))))))
    (sl_one (ss_ret (se_lst (sa_cons (se_var (i := 2)) sa_nil))))
    sl_nil)
    (sl_one (ss_if (sb_w (sw_and (sb_gt (se_var (i := 2)) se_int) (sw_and1 (sb_le (se_var (i := 3)) (se_ix (se_var (i := 1)) (se_sub (se_var (i := 2)) se_int))))))
    (sl_one (ss_ret (se_lst (sa_cons (se_var (i := 2)) sa_nil))))
    sl_nil))))
    (sl_one (ss_ret (se_lst sa_nil))))).imp fun _ _ _ _ => spOf_run'
theorem sc_led_to : FnScope n_led_to p_led_to (defScope s_led_to) := ⟨rfl, rfl, rfl, by decide +kernel, rfl, by decide +kernel, by decide +kernel⟩
theorem bd_led_to (T : Txt K mg ad fd) : Binds K (fd 21) p_led_to [] := T.d_led_to.binds (ps := p_led_to) fun _ _ _ _ _ _ us hl => match us, hl with | [_, _, _], _ => rfl
theorem ok_led_to (T : Txt K mg ad fd) : FnG P w K mg base 1 (ad 21) (fd 21) p_led_to (spOf K 3 f_led_to) := (fnG_of (m := m_led_to) T.d_led_to sc_led_to fun cdv A outer s H E hr hg =>
    (sl_one (ss_ret (se_lc (own := [("goal", 3), ("_", 4)]) (is := [3, 4]) rfl sc_led_to.nd (si_seq (se_ix (se_ix (se_ix (se_ix (se_var (i := 0)) se_int) (se_var (i := 1))) (se_var (i := 2))) se_int)) (blkOk_by (own := [("goal", 3), ("_", 4)]) (N := n_led_to) (sc := defScope s_led_to) (by decide +kernel)) (by decide) (fun _ _ _ _ _ => (sg_tup rfl (sgs_cons (sg_name (i := 3) sc_led_to.nd) (sgs_cons (sg_name (i := 4) sc_led_to.nd) sgs_nil)))) (fun _ _ _ _ _ => sts_nil) (fun _ _ _ _ _ => (se_var (i := 3))))))).imp fun _ _ _ _ => spOf_run'
theorem sc_mean_behind : FnScope n_mean_behind p_mean_behind (defScope s_mean_behind) := ⟨rfl, rfl, rfl, by decide +kernel, rfl, by decide +kernel, by decide +kernel⟩
theorem bd_mean_behind (T : Txt K mg ad fd) : Binds K (fd 22) p_mean_behind [] := T.d_mean_behind.binds (ps := p_mean_behind) fun _ _ _ _ _ _ us hl => match us, hl with | [_, _, _, _], _ => rfl
theorem ok_mean_behind (T : Txt K mg ad fd) : FnG P w K mg base 4 (ad 22) (fd 22) p_mean_behind (spOf K 4 f_mean_behind) := (fnG_of (m := m_mean_behind) T.d_mean_behind sc_mean_behind fun cdv A outer s H E hr hg =>
    (sl_one (ss_ret (se_call (ok_total T) (hr.mono (by omega)) hg T.m_total T.d_total.kp (bd_total T) (sa_cons (se_lc (own := [("goal", 4), ("chance", 5)]) (is := [4, 5]) rfl sc_mean_behind.nd (si_seq (se_ix (se_ix (se_ix (se_ix (se_var (i := 0)) se_int) (se_var (i := 2))) (se_var (i := 3))) se_int)) (blkOk_by (own := [("goal", 4), ("chance", 5)]) (N := n_mean_behind) (sc := defScope s_mean_behind) (by decide +kernel)) (by decide) (fun _ _ _ _ _ => (sg_tup rfl (sgs_cons (sg_name (i := 4) sc_mean_behind.nd) (sgs_cons (sg_name (i := 5) sc_mean_behind.nd) sgs_nil)))) (fun _ _ _ _ _ => sts_nil) (fun _ _ _ _ _ => (se_call (ok_times T) (hr.mono (by omega)) hg T.m_times T.d_times.kp (bd_times T) (sa_cons (se_var (i := 5)) (sa_cons (se_ix (se_var (i := 1)) (se_var (i := 4))) sa_nil))))) sa_nil))))).imp fun _ _ _ _ => spOf_run'
theorem sc_reaching : FnScope n_reaching p_reaching (defScope s_reaching) := ⟨rfl, rfl, rfl, by decide +kernel, rfl, by decide +kernel, by decide +kernel⟩
theorem bd_reaching (T : Txt K mg ad fd) : Binds K (fd 23) p_reaching [] := T.d_reaching.binds (ps := p_reaching) fun _ _ _ _ _ _ us hl => match us, hl with | [_, _, _], _ => rfl
theorem ok_reaching (T : Txt K mg ad fd) : FnG P w K mg base 2 (ad 23) (fd 23) p_reaching (spOf K 3 f_reaching) := (fnG_of (m := m_reaching) T.d_reaching sc_reaching fun cdv A outer s H E hr hg =>
    (sl_cons (ss_set (i := 3) sc_reaching.nd rfl (.inr rfl) (se_list (sa_cons (se_var (i := 1)) sa_nil) T.b_list))
    (sl_cons (ss_set (i := 4) sc_reaching.nd rfl (.inl rfl) se_bl)
    (sl_cons (ss_while PassesOwn.never (sb_val (se_var (i := 4)))
    (sl_cons (ss_set (i := 5) sc_reaching.nd rfl (.inl rfl) (se_lst sa_nil))
    (sl_cons (ss_for PassesOwn.never rfl (si_enum (sa_cons (se_var (i := 2)) sa_nil) T.b_enumerate) (sg_tup rfl (sgs_cons (sg_name (i := 6) sc_reaching.nd) (sgs_cons (sg_name (i := 7) sc_reaching.nd) sgs_nil)))
    (sl_one (ss_if (sb_w (sw_and (sb_notin hr (se_var (i := 6)) (se_var (i := 3))) (sw_and1 (sb_val (se_any rfl (sa_cons (se_lc (own := [("goal", 8)]) (is := [8]) rfl sc_reaching.nd (si_seq (se_call (ok_led_to T) (hr.mono (by omega)) hg T.m_led_to T.d_led_to.kp (bd_led_to T) (sa_cons (se_var (i := 0)) (sa_cons (se_var (i := 6)) (sa_cons (se_var (i := 7)) sa_nil))))) (blkOk_by (own := [("goal", 8)]) (N := n_reaching) (sc := defScope s_reaching) (by decide +kernel)) (by decide) (fun _ _ _ _ _ => (sg_name (i := 8) sc_reaching.nd)) (fun _ _ _ _ _ => sts_nil) (fun _ _ _ _ _ => (se_in hr (se_var (i := 8)) (se_var (i := 3))))) sa_nil) T.b_any)))))
    (sl_one (ss_append (i := 5) (se_var (i := 6))))
    sl_nil)))
    (sl_cons (ss_set (i := 3) sc_reaching.nd rfl (.inr rfl) (se_add (se_var (i := 3)) (se_var (i := 5))))
    (sl_one (ss_set (i := 4) sc_reaching.nd rfl (.inl rfl) (se_ne hr (se_var (i := 5)) (se_lst sa_nil))))))))
    (sl_one (ss_ret (se_sorted (sa_cons (se_var (i := 3)) sa_nil) T.b_sorted))))))).imp fun _ _ _ _ => spOf_run'
theorem sc_coming_by : FnScope n_coming_by p_coming_by (defScope s_coming_by) := ⟨rfl, rfl, rfl, by decide +kernel, rfl, by decide +kernel, by decide +kernel⟩
theorem bd_coming_by (T : Txt K mg ad fd) : Binds K (fd 24) p_coming_by [] := T.d_coming_by.binds (ps := p_coming_by) fun _ _ _ _ _ _ us hl => match us, hl with | [_, _, _], _ => rfl
theorem ok_coming_by (T : Txt K mg ad fd) : FnG P w K mg base 5 (ad 24) (fd 24) p_coming_by (spOf K 3 f_coming_by) := (fnG_of (m := m_coming_by) T.d_coming_by sc_coming_by fun cdv A outer s H E hr hg =>
    (sl_cons (ss_setLc (i := 3) (own := [("stand", 6)]) (is := [6]) rfl sc_coming_by.nd rfl rfl (sw_true rfl rfl rfl (by decide +kernel)) (si_seq (se_call (ok_reaching T) (hr.mono (by omega)) hg T.m_reaching T.d_reaching.kp (bd_reaching T) (sa_cons (se_var (i := 0)) (sa_cons (se_var (i := 1)) (sa_cons (se_var (i := 2)) sa_nil))))) (blkOk_by (own := [("stand", 6)]) (N := n_coming_by) (sc := defScope s_coming_by) (by decide +kernel)) (by decide) (fun _ _ _ _ _ => (sg_name (i := 6) sc_coming_by.nd)) (fun _ _ _ _ _ => sts_one (sb_notin hr (se_var (i := 6)) (se_var (i := 1)))) (fun _ _ _ _ _ => (se_var (i := 6))))
    (sl_cons (ss_par2f (i := 4) (j := 5) rfl sc_coming_by.nd (sa2_cons (se_lst sa_nil) (sa2_cons (se_lst sa_nil) sa2_nil)))
    (sl_cons (ss_frz [3] (ss_for PassesOwn.never rfl (si_seq (se_var (i := 3))) (sg_name (i := 6) sc_coming_by.nd)
    (sl_cons (ss_set (i := 7) sc_coming_by.nd rfl (.inr rfl) (se_dc (own := [("goal", 10), ("chance", 11)]) (is := [10, 11]) rfl sc_coming_by.nd (si_seq (se_ix (se_ix (se_ix (se_ix (se_var (i := 0)) se_int) (se_var (i := 6))) (se_ix (se_var (i := 2)) (se_var (i := 6)))) se_int)) (blkOk_by (own := [("goal", 10), ("chance", 11)]) (N := n_coming_by) (sc := defScope s_coming_by) (by decide +kernel)) (by decide) (fun _ _ _ _ _ => (sg_tup rfl (sgs_cons (sg_name (i := 10) sc_coming_by.nd) (sgs_cons (sg_name (i := 11) sc_coming_by.nd) sgs_nil)))) (fun _ _ _ _ _ => sts_nil) (fun _ _ _ _ _ => (se_var (i := 10))) (fun _ _ _ _ _ => (se_var (i := 11)))))
    (sl_cons (ss_frz [3] (ss_setLc (i := 8) (own := [("each", 12)]) (is := [12]) rfl sc_coming_by.nd rfl rfl (sw_true rfl rfl rfl (by decide +kernel)) (si_seq (se_var (i := 3))) (blkOk_by (own := [("each", 12)]) (N := n_coming_by) (sc := defScope s_coming_by) (by decide +kernel)) (by decide) (fun _ _ _ _ _ => (sg_name (i := 12) sc_coming_by.nd)) (fun _ _ _ _ _ => sts_nil) (fun _ _ _ _ _ => (se_call (ok_minus T) (hr.mono (by omega)) hg T.m_minus T.d_minus.kp (bd_minus T) (sa_cons (se_if (sb_eq hr (se_var (i := 12)) (se_var (i := 6))) (se_glob T.g_ONE (by rfl)) (se_glob T.g_ZERO (by rfl))) (sa_cons (se_get2 hr (se_var (i := 7)) (se_var (i := 12)) (se_glob T.g_ZERO (by rfl))) sa_nil))))))
    (sl_cons (ss_frz [8] (ss_append (i := 4) (se_var (i := 8))))
    (sl_one (ss_append (i := 5) (se_tup (sa_cons (se_call (ok_total T) (hr.mono (by omega)) hg T.m_total T.d_total.kp (bd_total T) (sa_cons (se_lc (own := [("goal", 10)]) (is := [10]) rfl sc_coming_by.nd (si_seq (se_var (i := 1))) (blkOk_by (own := [("goal", 10)]) (N := n_coming_by) (sc := defScope s_coming_by) (by decide +kernel)) (by decide) (fun _ _ _ _ _ => (sg_name (i := 10) sc_coming_by.nd)) (fun _ _ _ _ _ => sts_nil) (fun _ _ _ _ _ => (se_get2 hr (se_var (i := 7)) (se_var (i := 10)) (se_glob T.g_ZERO (by rfl))))) sa_nil)) sa_nil)))))))))
    (sl_cons (ss_setLc (i := 9) (own := [("stand", 6)]) (is := [6]) rfl sc_coming_by.nd rfl rfl (sw_true rfl rfl rfl (by decide +kernel)) (si_range1 (sa_cons (se_len (sa_cons (se_ix (se_var (i := 0)) se_int) sa_nil) T.b_len) sa_nil) T.b_range) (blkOk_by (own := [("stand", 6)]) (N := n_coming_by) (sc := defScope s_coming_by) (by decide +kernel)) (by decide) (fun _ _ _ _ _ => (sg_name (i := 6) sc_coming_by.nd)) (fun _ _ _ _ _ => sts_nil) (fun _ _ _ _ _ => (se_if (sb_in hr (se_var (i := 6)) (se_var (i := 1))) (se_glob T.g_ONE (by rfl)) (se_glob T.g_ZERO (by rfl)))))
    (sl_cons (ss_frz [3, 4, 5] (ss_for PassesOwn.never rfl (si_z2 (sa_cons (se_var (i := 3)) (sa_cons (se_call (ok_answers_of T) (hr.mono (by omega)) hg T.m_answers_of T.d_answers_of.kp (bd_answers_of T) (sa_cons (se_var (i := 4)) (sa_cons (se_var (i := 5)) sa_nil))) sa_nil)) T.b_zip) (sg_tup rfl (sgs_cons (sg_name (i := 6) sc_coming_by.nd) (sgs_cons (sg_name (i := 8) sc_coming_by.nd) sgs_nil)))
    (sl_one (ss_put (i := 9) (se_ix (se_var (i := 8)) se_int) (pg_sub (pv 9) (se_var (i := 6)) set_list)))))
    (sl_one (ss_ret (se_tuple (sa_cons (se_var (i := 9)) sa_nil) T.b_tuple))))))))).imp fun _ _ _ _ => spOf_run'
theorem sc_better_deed : FnScope n_better_deed p_better_deed (defScope s_better_deed) := ⟨rfl, rfl, rfl, by decide +kernel, rfl, by decide +kernel, by decide +kernel⟩
theorem bd_better_deed (T : Txt K mg ad fd) : Binds K (fd 25) p_better_deed [] := T.d_better_deed.binds (ps := p_better_deed) fun _ _ _ _ _ _ us hl => match us, hl with | [_, _, _, _], _ => rfl
theorem ok_better_deed (T : Txt K mg ad fd) : FnG P w K mg base 5 (ad 25) (fd 25) p_better_deed (spOf K 4 f_better_deed) := (fnG_of (m := m_better_deed) T.d_better_deed sc_better_deed fun cdv A outer s H E hr hg =>
    (sl_cons (ss_par (i := 4) (j := 5) rfl sc_better_deed.nd (sa_cons (se_var (i := 3)) (sa_cons (se_ix (se_var (i := 1)) (se_var (i := 2))) sa_nil)))
    (sl_cons (ss_for PassesOwn.never rfl (si_range1 (sa_cons (se_len (sa_cons (se_ix (se_ix (se_var (i := 0)) se_int) (se_var (i := 2))) sa_nil) T.b_len) sa_nil) T.b_range) (sg_name (i := 6) sc_better_deed.nd)
    (sl_cons (ss_set (i := 7) sc_better_deed.nd rfl (.inl rfl) (se_call (ok_mean_behind T) (hr.mono (by omega)) hg T.m_mean_behind T.d_mean_behind.kp (bd_mean_behind T) (sa_cons (se_var (i := 0)) (sa_cons (se_var (i := 1)) (sa_cons (se_var (i := 2)) (sa_cons (se_var (i := 6)) sa_nil))))))
    (sl_one (ss_if (sb_val (se_call (ok_is_less T) (hr.mono (by omega)) hg T.m_is_less T.d_is_less.kp (bd_is_less T) (sa_cons (se_var (i := 5)) (sa_cons (se_var (i := 7)) sa_nil))))
    (sl_one (ss_par (i := 4) (j := 5) rfl sc_better_deed.nd (sa_cons (se_var (i := 6)) (sa_cons (se_var (i := 7)) sa_nil))))
    sl_nil))))
    (sl_one (ss_retV (i := 4)))))).imp fun _ _ _ _ => spOf_run'
theorem sc_greatest_by : FnScope n_greatest_by p_greatest_by (defScope s_greatest_by) := ⟨rfl, rfl, rfl, by decide +kernel, rfl, by decide +kernel, by decide +kernel⟩
theorem bd_greatest_by (T : Txt K mg ad fd) : Binds K (fd 26) p_greatest_by [] := T.d_greatest_by.binds (ps := p_greatest_by) fun _ _ _ _ _ _ us hl => match us, hl with | [_, _], _ => rfl
theorem ok_greatest_by (T : Txt K mg ad fd) : FnG P w K mg base 6 (ad 26) (fd 26) p_greatest_by (spOf K 2 f_greatest_by) := (fnG_of (m := m_greatest_by) T.d_greatest_by sc_greatest_by fun cdv A outer s H E hr hg =>
    (sl_cons (ss_par (i := 2) (j := 3) rfl sc_greatest_by.nd (sa_cons (se_tup sa_nil) (sa_cons (se_mul (se_tup (sa_cons se_int sa_nil)) (se_len (sa_cons (se_ix (se_var (i := 0)) se_int) sa_nil) T.b_len)) sa_nil)))
    (sl_cons (ss_while PassesOwn.never (sb_ne hr (se_var (i := 3)) (se_var (i := 2)))
    (sl_cons (ss_set (i := 2) sc_greatest_by.nd rfl (.inl rfl) (se_var (i := 3)))
    (sl_cons (ss_set (i := 4) sc_greatest_by.nd rfl (.inr rfl) (se_call (ok_coming_by T) (hr.mono (by omega)) hg T.m_coming_by T.d_coming_by.kp (bd_coming_by T) (sa_cons (se_var (i := 0)) (sa_cons (se_var (i := 1)) (sa_cons (se_var (i := 2)) sa_nil)))))
    (sl_one (ss_set (i := 3) sc_greatest_by.nd rfl (.inl rfl) (se_tuple (sa_cons (se_lc (own := [("stand", 5), ("deed", 6)]) (is := [5, 6]) rfl sc_greatest_by.nd (si_enum (sa_cons (se_var (i := 2)) sa_nil) T.b_enumerate) (blkOk_by (own := [("stand", 5), ("deed", 6)]) (N := n_greatest_by) (sc := defScope s_greatest_by) (by decide +kernel)) (by decide) (fun _ _ _ _ _ => (sg_tup rfl (sgs_cons (sg_name (i := 5) sc_greatest_by.nd) (sgs_cons (sg_name (i := 6) sc_greatest_by.nd) sgs_nil)))) (fun _ _ _ _ _ => sts_nil) (fun _ _ _ _ _ => (se_if (sb_in hr (se_var (i := 5)) (se_var (i := 1))) (se_var (i := 6)) (se_call (ok_better_deed T) (hr.mono (by omega)) hg T.m_better_deed T.d_better_deed.kp (bd_better_deed T) (sa_cons (se_var (i := 0)) (sa_cons (se_var (i := 4)) (sa_cons (se_var (i := 5)) (sa_cons (se_var (i := 6)) sa_nil)))))))) sa_nil) T.b_tuple))))))
    (sl_one (ss_ret (se_tup (sa_cons (se_var (i := 4)) (sa_cons (se_var (i := 2)) sa_nil)))))))).imp fun _ _ _ _ => spOf_run'
theorem sc_range_of : FnScope n_range_of p_range_of (defScope s_range_of) := ⟨rfl, rfl, rfl, by decide +kernel, rfl, by decide +kernel, by decide +kernel⟩
theorem bd_range_of (T : Txt K mg ad fd) : Binds K (fd 27) p_range_of [] := T.d_range_of.binds (ps := p_range_of) fun _ _ _ _ _ _ us hl => match us, hl with | [_, _], _ => rfl
theorem ok_range_of (T : Txt K mg ad fd) : FnG P w K mg base 1 (ad 27) (fd 27) p_range_of (spOf K 2 f_range_of) := (fnG_of (m := m_range_of) T.d_range_of sc_range_of fun cdv A outer s H E hr hg =>
    (sl_one (ss_ret (se_listRange rfl (se_len (sa_cons (se_ix (se_ix (se_var (i := 0)) se_int) (se_var (i := 1))) sa_nil) T.b_len) T.b_range T.b_list)))).imp fun _ _ _ _ => spOf_run'
theorem sc_staying_deed : FnScope n_staying_deed p_staying_deed (defScope s_staying_deed) := ⟨rfl, rfl, rfl, by decide +kernel, rfl, by decide +kernel, by decide +kernel⟩
theorem bd_staying_deed (T : Txt K mg ad fd) : Binds K (fd 28) p_staying_deed [] := T.d_staying_deed.binds (ps := p_staying_deed) fun _ _ _ _ _ _ us hl => match us, hl with | [_, _, _], _ => rfl
theorem ok_staying_deed (T : Txt K mg ad fd) : FnG P w K mg base 2 (ad 28) (fd 28) p_staying_deed (spOf K 3 f_staying_deed) := (fnG_of (m := m_staying_deed) T.d_staying_deed sc_staying_deed fun cdv A outer s H E hr hg =>
    (sl_cons (ss_set (i := 3) sc_staying_deed.nd rfl (.inl rfl) (se_call (ok_range_of T) (hr.mono (by omega)) hg T.m_range_of T.d_range_of.kp (bd_range_of T) (sa_cons (se_var (i := 0)) (sa_cons (se_var (i := 2)) sa_nil))))
    (sl_one (ss_frz [3] (ss_ret (se_sl (se_lc (own := [("deed", 4)]) (is := [4]) rfl sc_staying_deed.nd (si_seq (se_var (i := 3))) (blkOk_by (own := [("deed", 4)]) (N := n_staying_deed) (sc := defScope s_staying_deed) (by decide +kernel)) (by decide) (fun _ _ _ _ _ => (sg_name (i := 4) sc_staying_deed.nd)) (fun _ _ _ _ _ => sts_one (sb_val (se_all rfl (sa_cons (se_lc (own := [("goal", 5)]) (is := [5]) rfl sc_staying_deed.nd (si_seq (se_call (ok_led_to T) (hr.mono (by omega)) hg T.m_led_to T.d_led_to.kp (bd_led_to T) (sa_cons (se_var (i := 0)) (sa_cons (se_var (i := 2)) (sa_cons (se_var (i := 4)) sa_nil))))) (blkOk_by (own := [("goal", 5)]) (N := n_staying_deed) (sc := relS _ (defScope s_staying_deed)) (by decide +kernel)) (by decide) (fun _ _ _ _ _ => (sg_name (i := 5) sc_staying_deed.nd)) (fun _ _ _ _ _ => sts_nil) (fun _ _ _ _ _ => (se_in hr (se_var (i := 5)) (se_var (i := 1))))) sa_nil) T.b_all))) (fun _ _ _ _ _ => (se_var (i := 4)))) so_none (so_some se_int))))))).imp fun _ _ _ _ => spOf_run'
theorem sc_staying : FnScope n_staying p_staying (defScope s_staying) := ⟨rfl, rfl, rfl, by decide +kernel, rfl, by decide +kernel, by decide +kernel⟩
theorem bd_staying (T : Txt K mg ad fd) : Binds K (fd 29) p_staying [] := T.d_staying.binds (ps := p_staying) fun _ _ _ _ _ _ us hl => match us, hl with | [_, _], _ => rfl
theorem ok_staying (T : Txt K mg ad fd) : FnG P w K mg base 3 (ad 29) (fd 29) p_staying (spOf K 2 f_staying) := (fnG_of (m := m_staying) T.d_staying sc_staying fun cdv A outer s H E hr hg =>
    (sl_cons (ss_set (i := 2) sc_staying.nd rfl (.inr rfl) (se_lc (own := [("stand", 4)]) (is := [4]) rfl sc_staying.nd (si_range1 (sa_cons (se_len (sa_cons (se_ix (se_var (i := 0)) se_int) sa_nil) T.b_len) sa_nil) T.b_range) (blkOk_by (own := [("stand", 4)]) (N := n_staying) (sc := defScope s_staying) (by decide +kernel)) (by decide) (fun _ _ _ _ _ => (sg_name (i := 4) sc_staying.nd)) (fun _ _ _ _ _ => sts_one (sb_notin hr (se_var (i := 4)) (se_var (i := 1)))) (fun _ _ _ _ _ => (se_var (i := 4)))))
    (sl_cons (ss_frz [2] (ss_setLc (i := 3) (own := [("stand", 4)]) (is := [4]) rfl sc_staying.nd rfl rfl (sw_true rfl rfl rfl (by decide +kernel)) (si_seq (se_var (i := 2))) (blkOk_by (own := [("stand", 4)]) (N := n_staying) (sc := defScope s_staying) (by decide +kernel)) (by decide) (fun _ _ _ _ _ => (sg_name (i := 4) sc_staying.nd)) (fun _ _ _ _ _ => sts_one (sb_ne hr (se_call (ok_staying_deed T) (hr.mono (by omega)) hg T.m_staying_deed T.d_staying_deed.kp (bd_staying_deed T) (sa_cons (se_var (i := 0)) (sa_cons (se_var (i := 2)) (sa_cons (se_var (i := 4)) sa_nil)))) (se_lst sa_nil))) (fun _ _ _ _ _ => (se_var (i := 4)))))
    (sl_cons (ss_while PassesOwn.never (sb_ne hr (se_var (i := 3)) (se_var (i := 2)))
    (sl_cons (ss_frz [3] (ss_set (i := 2) sc_staying.nd rfl (.inr rfl) (se_var (i := 3))))
    (sl_one (ss_frz [2] (ss_setLc (i := 3) (own := [("stand", 4)]) (is := [4]) rfl sc_staying.nd rfl rfl (sw_true rfl rfl rfl (by decide +kernel)) (si_seq (se_var (i := 2))) (blkOk_by (own := [("stand", 4)]) (N := n_staying) (sc := defScope s_staying) (by decide +kernel)) (by decide) (fun _ _ _ _ _ => (sg_name (i := 4) sc_staying.nd)) (fun _ _ _ _ _ => sts_one (sb_ne hr (se_call (ok_staying_deed T) (hr.mono (by omega)) hg T.m_staying_deed T.d_staying_deed.kp (bd_staying_deed T) (sa_cons (se_var (i := 0)) (sa_cons (se_var (i := 2)) (sa_cons (se_var (i := 4)) sa_nil)))) (se_lst sa_nil))) (fun _ _ _ _ _ => (se_var (i := 4))))))))
    (sl_one (ss_retV (i := 2))))))).imp fun _ _ _ _ => spOf_run'
theorem sc_worse_deed : FnScope n_worse_deed p_worse_deed (defScope s_worse_deed) := ⟨rfl, rfl, rfl, by decide +kernel, rfl, by decide +kernel, by decide +kernel⟩
theorem bd_worse_deed (T : Txt K mg ad fd) : Binds K (fd 30) p_worse_deed [] := T.d_worse_deed.binds (ps := p_worse_deed) fun _ _ _ _ _ _ us hl => match us, hl with | [_, _, _, _], _ => rfl
theorem ok_worse_deed (T : Txt K mg ad fd) : FnG P w K mg base 5 (ad 30) (fd 30) p_worse_deed (spOf K 4 f_worse_deed) := (fnG_of (m := m_worse_deed) T.d_worse_deed sc_worse_deed fun cdv A outer s H E hr hg =>
    (sl_cons (ss_par (i := 4) (j := 5) rfl sc_worse_deed.nd (sa_cons (se_var (i := 3)) (sa_cons (se_ix (se_var (i := 1)) (se_var (i := 2))) sa_nil)))
    (sl_cons (ss_for PassesOwn.never rfl (si_seq (se_call (ok_range_of T) (hr.mono (by omega)) hg T.m_range_of T.d_range_of.kp (bd_range_of T) (sa_cons (se_var (i := 0)) (sa_cons (se_var (i := 2)) sa_nil)))) (sg_name (i := 6) sc_worse_deed.nd)
    (sl_cons (ss_set (i := 7) sc_worse_deed.nd rfl (.inl rfl) (se_call (ok_mean_behind T) (hr.mono (by omega)) hg T.m_mean_behind T.d_mean_behind.kp (bd_mean_behind T) (sa_cons (se_var (i := 0)) (sa_cons (se_var (i := 1)) (sa_cons (se_var (i := 2)) (sa_cons (se_var (i := 6)) sa_nil))))))
    (sl_one (ss_if (sb_val (se_call (ok_is_less T) (hr.mono (by omega)) hg T.m_is_less T.d_is_less.kp (bd_is_less T) (sa_cons (se_var (i := 7)) (sa_cons (se_var (i := 5)) sa_nil))))
    (sl_one (ss_par (i := 4) (j := 5) rfl sc_worse_deed.nd (sa_cons (se_var (i := 6)) (sa_cons (se_var (i := 7)) sa_nil))))
    sl_nil))))
    (sl_one (ss_retV (i := 4)))))).imp fun _ _ _ _ => spOf_run'
theorem sc_least_by : FnScope n_least_by p_least_by (defScope s_least_by) := ⟨rfl, rfl, rfl, by decide +kernel, rfl, by decide +kernel, by decide +kernel⟩
theorem bd_least_by (T : Txt K mg ad fd) : Binds K (fd 31) p_least_by [] := T.d_least_by.binds (ps := p_least_by) fun _ _ _ _ _ _ us hl => match us, hl with | [_, _], _ => rfl
theorem ok_least_by (T : Txt K mg ad fd) : FnG P w K mg base 6 (ad 31) (fd 31) p_least_by (spOf K 2 f_least_by) := (fnG_of (m := m_least_by) T.d_least_by sc_least_by fun cdv A outer s H E hr hg =>
    (sl_cons (ss_set (i := 2) sc_least_by.nd rfl (.inr rfl) (se_call (ok_staying T) (hr.mono (by omega)) hg T.m_staying T.d_staying.kp (bd_staying T) (sa_cons (se_var (i := 0)) (sa_cons (se_var (i := 1)) sa_nil))))
    (sl_cons (ss_frz [2] (ss_set (i := 3) sc_least_by.nd rfl (.inr rfl) (se_dc (own := [("stand", 7)]) (is := [7]) rfl sc_least_by.nd (si_seq (se_var (i := 2))) (blkOk_by (own := [("stand", 7)]) (N := n_least_by) (sc := defScope s_least_by) (by decide +kernel)) (by decide) (fun _ _ _ _ _ => (sg_name (i := 7) sc_least_by.nd)) (fun _ _ _ _ _ => sts_nil) (fun _ _ _ _ _ => (se_var (i := 7))) (fun _ _ _ _ _ => (se_ix (se_call (ok_staying_deed T) (hr.mono (by omega)) hg T.m_staying_deed T.d_staying_deed.kp (bd_staying_deed T) (sa_cons (se_var (i := 0)) (sa_cons (se_var (i := 2)) (sa_cons (se_var (i := 7)) sa_nil)))) se_int)))))
    (sl_cons (ss_par (i := 4) (j := 5) rfl sc_least_by.nd (sa_cons (se_tup sa_nil) (sa_cons (se_tuple (sa_cons (se_lc (own := [("stand", 7)]) (is := [7]) rfl sc_least_by.nd (si_range1 (sa_cons (se_len (sa_cons (se_ix (se_var (i := 0)) se_int) sa_nil) T.b_len) sa_nil) T.b_range) (blkOk_by (own := [("stand", 7)]) (N := n_least_by) (sc := defScope s_least_by) (by decide +kernel)) (by decide) (fun _ _ _ _ _ => (sg_name (i := 7) sc_least_by.nd)) (fun _ _ _ _ _ => sts_nil) (fun _ _ _ _ _ => (se_get2 hr (se_var (i := 3)) (se_var (i := 7)) se_int))) sa_nil) T.b_tuple) sa_nil)))
    (sl_cons (ss_while PassesOwn.never (sb_ne hr (se_var (i := 5)) (se_var (i := 4)))
    (sl_cons (ss_set (i := 4) sc_least_by.nd rfl (.inl rfl) (se_var (i := 5)))
    (sl_cons (ss_set (i := 6) sc_least_by.nd rfl (.inr rfl) (se_call (ok_coming_by T) (hr.mono (by omega)) hg T.m_coming_by T.d_coming_by.kp (bd_coming_by T) (sa_cons (se_var (i := 0)) (sa_cons (se_var (i := 1)) (sa_cons (se_var (i := 4)) sa_nil)))))
    (sl_one (ss_set (i := 5) sc_least_by.nd rfl (.inl rfl) (se_tuple (sa_cons (se_lc (own := [("stand", 7), ("deed", 8)]) (is := [7, 8]) rfl sc_least_by.nd (si_enum (sa_cons (se_var (i := 4)) sa_nil) T.b_enumerate) (blkOk_by (own := [("stand", 7), ("deed", 8)]) (N := n_least_by) (sc := defScope s_least_by) (by decide +kernel)) (by decide) (fun _ _ _ _ _ => (sg_tup rfl (sgs_cons (sg_name (i := 7) sc_least_by.nd) (sgs_cons (sg_name (i := 8) sc_least_by.nd) sgs_nil)))) (fun _ _ _ _ _ => sts_nil) (fun _ _ _ _ _ => (se_if (sb_w (sw_or (sb_in hr (se_var (i := 7)) (se_var (i := 1))) (sw_or1 (sb_in hr (se_var (i := 7)) (se_var (i := 2)))))) (se_var (i := 8)) (se_call (ok_worse_deed T) (hr.mono (by omega)) hg T.m_worse_deed T.d_worse_deed.kp (bd_worse_deed T) (sa_cons (se_var (i := 0)) (sa_cons (se_var (i := 6)) (sa_cons (se_var (i := 7)) (sa_cons (se_var (i := 8)) sa_nil)))))))) sa_nil) T.b_tuple))))))
    (sl_one (ss_ret (se_tup (sa_cons (se_var (i := 6)) (sa_cons (se_var (i := 4)) sa_nil)))))))))).imp fun _ _ _ _ => spOf_run'
end
end WW
namespace WW
open PySem PySem.Spec L2 Dh
section
variable {P : Program} {w : World} {K : PySem.W.Frag} {mg : Str → Option Value} {base : Heap} {ad : Nat → Addr} {fd : Nat → FuncData}
theorem sc_meets_all : FnScope n_meets_all p_meets_all (defScope s_meets_all) := ⟨rfl, rfl, rfl, by decide +kernel, rfl, by decide +kernel, by decide +kernel⟩
theorem bd_meets_all (T : Txt K mg ad fd) : Binds K (fd 32) p_meets_all [] := T.d_meets_all.binds (ps := p_meets_all) fun _ _ _ _ _ _ us hl => match us, hl with | [_, _, _], _ => rfl
theorem ok_meets_all (T : Txt K mg ad fd) : FnG P w K mg base 2 (ad 32) (fd 32) p_meets_all (spOf K 3 f_meets_all) := (fnG_of (m := m_meets_all) T.d_meets_all sc_meets_all fun cdv A outer s H E hr hg =>
    (sl_one (ss_ret (se_all rfl (sa_cons (se_lc (own := [("deed", 3)]) (is := [3]) rfl sc_meets_all.nd (si_seq (se_call (ok_range_of T) (hr.mono (by omega)) hg T.m_range_of T.d_range_of.kp (bd_range_of T) (sa_cons (se_var (i := 0)) (sa_cons (se_var (i := 2)) sa_nil)))) (blkOk_by (own := [("deed", 3)]) (N := n_meets_all) (sc := defScope s_meets_all) (by decide +kernel)) (by decide) (fun _ _ _ _ _ => (sg_name (i := 3) sc_meets_all.nd)) (fun _ _ _ _ _ => sts_nil) (fun _ _ _ _ _ => (se_any rfl (sa_cons (se_lc (own := [("goal", 4)]) (is := [4]) rfl sc_meets_all.nd (si_seq (se_call (ok_led_to T) (hr.mono (by omega)) hg T.m_led_to T.d_led_to.kp (bd_led_to T) (sa_cons (se_var (i := 0)) (sa_cons (se_var (i := 2)) (sa_cons (se_var (i := 3)) sa_nil))))) (blkOk_by (own := [("goal", 4)]) (N := n_meets_all) (sc := relS _ (defScope s_meets_all)) (by decide +kernel)) (by decide) (fun _ _ _ _ _ => (sg_name (i := 4) sc_meets_all.nd)) (fun _ _ _ _ _ => sts_nil) (fun _ _ _ _ _ => (se_inM hr (se_var (i := 4)) (se_var (i := 1))))) sa_nil) T.b_any))) sa_nil) T.b_all)))).imp fun _ _ _ _ => spOf_run'
theorem sc_ranks_by : FnScope n_ranks_by p_ranks_by (defScope s_ranks_by) := ⟨rfl, rfl, rfl, by decide +kernel, rfl, by decide +kernel, by decide +kernel⟩
theorem bd_ranks_by (T : Txt K mg ad fd) : Binds K (fd 33) p_ranks_by [] := T.d_ranks_by.binds (ps := p_ranks_by) fun _ _ _ _ _ _ us hl => match us, hl with | [_, _], _ => rfl
theorem ok_ranks_by (T : Txt K mg ad fd) : FnG P w K mg base 4 (ad 33) (fd 33) p_ranks_by (spOf K 2 f_ranks_by) := (fnG_of (m := m_ranks_by) T.d_ranks_by sc_ranks_by fun cdv A outer s H E hr hg =>
    (sl_cons (ss_setDc (i := 2) (own := [("stand", 5)]) (is := [5]) rfl sc_ranks_by.nd rfl (.inr rfl) (si_seq (se_cat (se_list (sa_cons (se_var (i := 1)) sa_nil) T.b_list) (se_call (ok_staying T) (hr.mono (by omega)) hg T.m_staying T.d_staying.kp (bd_staying T) (sa_cons (se_var (i := 0)) (sa_cons (se_var (i := 1)) sa_nil))))) (blkOk_by (own := [("stand", 5)]) (N := n_ranks_by) (sc := defScope s_ranks_by) (by decide +kernel)) (by decide) (fun _ _ _ _ _ => (sg_name (i := 5) sc_ranks_by.nd)) (fun _ _ _ _ _ => sts_nil) (fun _ _ _ _ _ => (se_var (i := 5))) (fun _ _ _ _ _ => se_int))
    (sl_cons (ss_set (i := 3) sc_ranks_by.nd rfl (.inl rfl) se_int)
    (sl_cons (ss_while PassesOwn.never (sb_lt (se_lenM (sa_cons (se_var (i := 2)) sa_nil) T.b_len) (se_len (sa_cons (se_ix (se_var (i := 0)) se_int) sa_nil) T.b_len))
    (sl_cons (ss_set (i := 3) sc_ranks_by.nd rfl (.inl rfl) (se_add (se_var (i := 3)) se_int))
    (sl_cons (ss_set (i := 4) sc_ranks_by.nd rfl (.inl rfl) (se_lst sa_nil))
    (sl_cons (ss_for PassesOwn.never rfl (si_range1 (sa_cons (se_len (sa_cons (se_ix (se_var (i := 0)) se_int) sa_nil) T.b_len) sa_nil) T.b_range) (sg_name (i := 5) sc_ranks_by.nd)
    (sl_one (ss_if (sb_w (sw_and (sb_notinM hr (se_var (i := 5)) (se_var (i := 2))) (sw_and1 (sb_val (se_callD (ok_meets_all T) (hr.mono (by omega)) hg T.m_meets_all T.d_meets_all.kp (bd_meets_all T) (sa_cons (se_var (i := 0)) (sa_cons (se_var (i := 2)) (sa_cons (se_var (i := 5)) sa_nil))))))))
    (sl_one (ss_append (i := 4) (se_var (i := 5))))
    sl_nil)))
    (sl_one (ss_frz [4] (ss_for PassesOwn.never rfl (si_seq (se_var (i := 4))) (sg_name (i := 5) sc_ranks_by.nd)
    (sl_one (ss_putM (i := 2) (se_var (i := 3)) (pg_sub (pv 2) (se_var (i := 5)) (set_dict (unitsM hr))))))))))))
    (sl_one (ss_ret (se_tuple (sa_cons (se_lc (own := [("stand", 5)]) (is := [5]) rfl sc_ranks_by.nd (si_range1 (sa_cons (se_len (sa_cons (se_ix (se_var (i := 0)) se_int) sa_nil) T.b_len) sa_nil) T.b_range) (blkOk_by (own := [("stand", 5)]) (N := n_ranks_by) (sc := defScope s_ranks_by) (by decide +kernel)) (by decide) (fun _ _ _ _ _ => (sg_name (i := 5) sc_ranks_by.nd)) (fun _ _ _ _ _ => sts_nil) (fun _ _ _ _ _ => (se_ixM hr (se_var (i := 2)) (se_var (i := 5))))) sa_nil) T.b_tuple))))))).imp fun _ _ _ _ => spOf_run'
theorem sc_check_goals : FnScope n_check_goals p_check_goals (defScope s_check_goals) := ⟨rfl, rfl, rfl, by decide +kernel, rfl, by decide +kernel, by decide +kernel⟩
theorem bd_check_goals (T : Txt K mg ad fd) : Binds K (fd 34) p_check_goals [] := T.d_check_goals.binds (ps := p_check_goals) fun _ _ _ _ _ _ us hl => match us, hl with | [_, _], _ => rfl
theorem ok_check_goals (T : Txt K mg ad fd) : FnG P w K mg base 2 (ad 34) (fd 34) p_check_goals (spOf K 2 f_check_goals) := (fnG_of (m := m_check_goals) T.d_check_goals sc_check_goals fun cdv A outer s H E hr hg =>
    (sl_cons (ss_if (sb_w (sw_or (sb_not (sb_val (se_isi (T := "tuple") (by decide) (se_var (i := 1)) T.b_isinstance T.b_tuple (by decide +kernel)))) (sw_or1 (sb_eqE hr (se_var (i := 1)) (se_tup sa_nil)))))
    (sl_one ss_never)
    sl_nil)
    (sl_one (ss_for PassesOwn.never rfl (si_seq (se_call (ok_wrong_goal T) (hr.mono (by omega)) hg T.m_wrong_goal T.d_wrong_goal.kp (bd_wrong_goal T) (sa_cons (se_var (i := 0)) (sa_cons (se_var (i := 1)) sa_nil)))) (sg_name (i := 2) sc_check_goals.nd)
    (sl_one ss_never))))).imp fun _ _ _ _ => spOf_run'
theorem sc_greatest_coming : FnScope n_greatest_coming p_greatest_coming (defScope s_greatest_coming) := ⟨rfl, rfl, rfl, by decide +kernel, rfl, by decide +kernel, by decide +kernel⟩
theorem bd_greatest_coming (T : Txt K mg ad fd) : Binds K (fd 35) p_greatest_coming [] := T.d_greatest_coming.binds (ps := p_greatest_coming) fun _ _ _ _ _ _ us hl => match us, hl with | [_, _], _ => rfl
theorem ok_greatest_coming (T : Txt K mg ad fd) : FnG P w K mg base 9 (ad 35) (fd 35) p_greatest_coming (spOf K 2 f_greatest_coming) := (fnG_of (m := m_greatest_coming) T.d_greatest_coming sc_greatest_coming fun cdv A outer s H E hr hg =>
    (sl_cons (ss_drop (se_call (ok_check_house T) (hr.mono (by omega)) hg T.m_check_house T.d_check_house.kp (bd_check_house T) (sa_cons (se_var (i := 0)) sa_nil)))
    (sl_cons (ss_drop (se_call (ok_check_goals T) (hr.mono (by omega)) hg T.m_check_goals T.d_check_goals.kp (bd_check_goals T) (sa_cons (se_var (i := 0)) (sa_cons (se_var (i := 1)) sa_nil))))
    (sl_one (ss_ret (se_call (ok_greatest_by T) (hr.mono (by omega)) hg T.m_greatest_by T.d_greatest_by.kp (bd_greatest_by T) (sa_cons (se_var (i := 0)) (sa_cons (se_var (i := 1)) sa_nil)))))))).imp fun _ _ _ _ => spOf_run'
theorem sc_least_coming : FnScope n_least_coming p_least_coming (defScope s_least_coming) := ⟨rfl, rfl, rfl, by decide +kernel, rfl, by decide +kernel, by decide +kernel⟩
theorem bd_least_coming (T : Txt K mg ad fd) : Binds K (fd 36) p_least_coming [] := T.d_least_coming.binds (ps := p_least_coming) fun _ _ _ _ _ _ us hl => match us, hl with | [_, _], _ => rfl
theorem ok_least_coming (T : Txt K mg ad fd) : FnG P w K mg base 9 (ad 36) (fd 36) p_least_coming (spOf K 2 f_least_coming) := (fnG_of (m := m_least_coming) T.d_least_coming sc_least_coming fun cdv A outer s H E hr hg =>
    (sl_cons (ss_drop (se_call (ok_check_house T) (hr.mono (by omega)) hg T.m_check_house T.d_check_house.kp (bd_check_house T) (sa_cons (se_var (i := 0)) sa_nil)))
    (sl_cons (ss_drop (se_call (ok_check_goals T) (hr.mono (by omega)) hg T.m_check_goals T.d_check_goals.kp (bd_check_goals T) (sa_cons (se_var (i := 0)) (sa_cons (se_var (i := 1)) sa_nil))))
    (sl_one (ss_ret (se_call (ok_least_by T) (hr.mono (by omega)) hg T.m_least_by T.d_least_by.kp (bd_least_by T) (sa_cons (se_var (i := 0)) (sa_cons (se_var (i := 1)) sa_nil)))))))).imp fun _ _ _ _ => spOf_run'
theorem sc_ranks_of : FnScope n_ranks_of p_ranks_of (defScope s_ranks_of) := ⟨rfl, rfl, rfl, by decide +kernel, rfl, by decide +kernel, by decide +kernel⟩
theorem bd_ranks_of (T : Txt K mg ad fd) : Binds K (fd 37) p_ranks_of [] := T.d_ranks_of.binds (ps := p_ranks_of) fun _ _ _ _ _ _ us hl => match us, hl with | [_, _], _ => rfl
theorem kb_ranks_of_10 (T : Txt K mg ad fd) : KB0 K (fd 37) p_ranks_of ["goals", "house"] [1, 0] := by
  obtain ⟨oc, od, kV, doc, pm, an, cdv, ct, osl, e, _, _⟩ := T.d_ranks_of.ex
  rw [e]
  intro s ws hK hl
  match ws, hl with
  | [_, _], _ => exact BindsTo.of_eq rfl
theorem ok_ranks_of (T : Txt K mg ad fd) : FnG P w K mg base 9 (ad 37) (fd 37) p_ranks_of (spOf K 2 f_ranks_of) := (fnG_of (m := m_ranks_of) T.d_ranks_of sc_ranks_of fun cdv A outer s H E hr hg =>
    (sl_cons (ss_drop (se_call (ok_check_house T) (hr.mono (by omega)) hg T.m_check_house T.d_check_house.kp (bd_check_house T) (sa_cons (se_var (i := 0)) sa_nil)))
    (sl_cons (ss_drop (se_call (ok_check_goals T) (hr.mono (by omega)) hg T.m_check_goals T.d_check_goals.kp (bd_check_goals T) (sa_cons (se_var (i := 0)) (sa_cons (se_var (i := 1)) sa_nil))))
    (sl_one (ss_ret (se_call (ok_ranks_by T) (hr.mono (by omega)) hg T.m_ranks_by T.d_ranks_by.kp (bd_ranks_by T) (sa_cons (se_var (i := 0)) (sa_cons (se_var (i := 1)) sa_nil)))))))).imp fun _ _ _ _ => spOf_run'
theorem sc_stands_of_one : FnScope n_stands_of_one p_stands_of_one (defScope s_stands_of_one) := ⟨rfl, rfl, rfl, by decide +kernel, rfl, by decide +kernel, by decide +kernel⟩
theorem bd_stands_of_one (T : Txt K mg ad fd) : Binds K (fd 38) p_stands_of_one [] := T.d_stands_of_one.binds (ps := p_stands_of_one) fun _ _ _ _ _ _ us hl => match us, hl with | [_], _ => rfl
theorem ok_stands_of_one (T : Txt K mg ad fd) : FnG P w K mg base 1 (ad 38) (fd 38) p_stands_of_one (spOf K 1 f_stands_of_one) := (fnG_of (m := m_stands_of_one) T.d_stands_of_one sc_stands_of_one fun cdv A outer s H E hr hg =>
    (sl_one (ss_ret (se_tuple (sa_cons (se_lc (own := [("stand", 1), ("each", 2)]) (is := [1, 2]) rfl sc_stands_of_one.nd (si_enum (sa_cons (se_var (i := 0)) sa_nil) T.b_enumerate) (blkOk_by (own := [("stand", 1), ("each", 2)]) (N := n_stands_of_one) (sc := defScope s_stands_of_one) (by decide +kernel)) (by decide) (fun _ _ _ _ _ => (sg_tup rfl (sgs_cons (sg_name (i := 1) sc_stands_of_one.nd) (sgs_cons (sg_name (i := 2) sc_stands_of_one.nd) sgs_nil)))) (fun _ _ _ _ _ => sts_one (sb_eq hr (se_var (i := 2)) (se_glob T.g_ONE (by rfl)))) (fun _ _ _ _ _ => (se_var (i := 1)))) sa_nil) T.b_tuple)))).imp fun _ _ _ _ => spOf_run'
theorem sc_sure_stands : FnScope n_sure_stands p_sure_stands (defScope s_sure_stands) := ⟨rfl, rfl, rfl, by decide +kernel, rfl, by decide +kernel, by decide +kernel⟩
theorem bd_sure_stands (T : Txt K mg ad fd) : Binds K (fd 39) p_sure_stands [] := T.d_sure_stands.binds (ps := p_sure_stands) fun _ _ _ _ _ _ us hl => match us, hl with | [_, _], _ => rfl
theorem kb_sure_stands_10 (T : Txt K mg ad fd) : KB0 K (fd 39) p_sure_stands ["goals", "house"] [1, 0] := by
  obtain ⟨oc, od, kV, doc, pm, an, cdv, ct, osl, e, _, _⟩ := T.d_sure_stands.ex
  rw [e]
  intro s ws hK hl
  match ws, hl with
  | [_, _], _ => exact BindsTo.of_eq rfl
theorem ok_sure_stands (T : Txt K mg ad fd) : FnG P w K mg base 10 (ad 39) (fd 39) p_sure_stands (spOf K 2 f_sure_stands) := (fnG_of (m := m_sure_stands) T.d_sure_stands sc_sure_stands fun cdv A outer s H E hr hg =>
    (sl_one (ss_ret (se_call (ok_stands_of_one T) (hr.mono (by omega)) hg T.m_stands_of_one T.d_stands_of_one.kp (bd_stands_of_one T) (sa_cons (se_ix (se_call (ok_greatest_coming T) (hr.mono (by omega)) hg T.m_greatest_coming T.d_greatest_coming.kp (bd_greatest_coming T) (sa_cons (se_var (i := 0)) (sa_cons (se_var (i := 1)) sa_nil))) se_int) sa_nil))))).imp fun _ _ _ _ => spOf_run'
theorem sc_certain_stands : FnScope n_certain_stands p_certain_stands (defScope s_certain_stands) := ⟨rfl, rfl, rfl, by decide +kernel, rfl, by decide +kernel, by decide +kernel⟩
theorem bd_certain_stands (T : Txt K mg ad fd) : Binds K (fd 40) p_certain_stands [] := T.d_certain_stands.binds (ps := p_certain_stands) fun _ _ _ _ _ _ us hl => match us, hl with | [_, _], _ => rfl
theorem kb_certain_stands_10 (T : Txt K mg ad fd) : KB0 K (fd 40) p_certain_stands ["goals", "house"] [1, 0] := by
  obtain ⟨oc, od, kV, doc, pm, an, cdv, ct, osl, e, _, _⟩ := T.d_certain_stands.ex
  rw [e]
  intro s ws hK hl
  match ws, hl with
  | [_, _], _ => exact BindsTo.of_eq rfl
theorem ok_certain_stands (T : Txt K mg ad fd) : FnG P w K mg base 10 (ad 40) (fd 40) p_certain_stands (spOf K 2 f_certain_stands) := (fnG_of (m := m_certain_stands) T.d_certain_stands sc_certain_stands fun cdv A outer s H E hr hg =>
    (sl_one (ss_ret (se_call (ok_stands_of_one T) (hr.mono (by omega)) hg T.m_stands_of_one T.d_stands_of_one.kp (bd_stands_of_one T) (sa_cons (se_ix (se_call (ok_least_coming T) (hr.mono (by omega)) hg T.m_least_coming T.d_least_coming.kp (bd_least_coming T) (sa_cons (se_var (i := 0)) (sa_cons (se_var (i := 1)) sa_nil))) se_int) sa_nil))))).imp fun _ _ _ _ => spOf_run'
theorem sc_law_spring : FnScope n_law_spring p_law_spring (defScope s_law_spring) := ⟨rfl, rfl, rfl, by decide +kernel, rfl, by decide +kernel, by decide +kernel⟩
theorem bd_law_spring (T : Txt K mg ad fd) : Binds K (fd 41) p_law_spring [] := T.d_law_spring.binds (ps := p_law_spring) fun _ _ _ _ _ _ us hl => match us, hl with | [_, _], _ => rfl
theorem ok_law_spring (T : Txt K mg ad fd) : FnG P w K mg base 1 (ad 41) (fd 41) p_law_spring (spOf K 2 f_law_spring) := (fnG_of (m := m_law_spring) T.d_law_spring sc_law_spring fun cdv A outer s H E hr hg =>
    (sl_cons (ss_set (i := 2) sc_law_spring.nd rfl (.inl rfl) (se_add se_int (se_mul se_int (se_var (i := 1)))))
    (sl_cons (ss_for PassesOwn.never rfl (si_seq (se_sl (se_var (i := 0)) so_none (so_some se_int))) (sg_name (i := 3) sc_law_spring.nd)
    (sl_one (ss_set (i := 2) sc_law_spring.nd rfl (.inl rfl) (se_mod (se_toint (sa_cons (se_add (se_add (se_mul (se_var (i := 2)) se_int) (se_mul (se_mod (se_toint (sa_cons (se_var (i := 3)) sa_nil) T.b_int) se_int) se_int)) se_int) sa_nil) T.b_int) se_int))))
    (sl_cons (ss_set (i := 4) sc_law_spring.nd rfl (.inl rfl) (se_if (sb_lt (se_var (i := 1)) (se_len (sa_cons (se_var (i := 0)) sa_nil) T.b_len)) (se_toint (sa_cons (se_ix (se_var (i := 0)) (se_var (i := 1))) sa_nil) T.b_int) se_int))
    (sl_cons (ss_set (i := 2) sc_law_spring.nd rfl (.inl rfl) (se_mod (se_toint (sa_cons (se_add (se_add (se_mul (se_var (i := 2)) se_int) (se_mul (se_mod (se_toint (sa_cons (se_var (i := 4)) sa_nil) T.b_int) se_int) se_int)) se_int) sa_nil) T.b_int) se_int))
    (sl_one (ss_ret (se_lst (sa_cons (se_if (sb_w (sw_or (sb_lt (se_var (i := 4)) se_int) (sw_or1 (sb_ge (se_var (i := 4)) (se_pow se_int se_int))))) (se_abs (sa_cons (se_var (i := 4)) sa_nil) T.b_abs) se_int) (sa_cons (se_var (i := 2)) (sa_cons se_int sa_nil))))))))))).imp fun _ _ _ _ => spOf_run'
theorem sc_law_pick : FnScope n_law_pick p_law_pick (defScope s_law_pick) := ⟨rfl, rfl, rfl, by decide +kernel, rfl, by decide +kernel, by decide +kernel⟩
theorem bd_law_pick (T : Txt K mg ad fd) : Binds K (fd 42) p_law_pick [] := T.d_law_pick.binds (ps := p_law_pick) fun _ _ _ _ _ _ us hl => match us, hl with | [_, _], _ => rfl
theorem ok_law_pick (T : Txt K mg ad fd) : FnG P w K mg base 1 (ad 42) (fd 42) p_law_pick (spOf K 2 f_law_pick) := (fnG_of (m := m_law_pick) T.d_law_pick sc_law_pick fun cdv A outer s H E hr hg =>
    (sl_cons (ss_if (sb_gt (se_ix (se_var (i := 0)) se_int) se_int)
    (sl_cons (ss_pair (i := 0) (j := 2) rfl sc_law_pick.nd (se_divmod (sa_cons (se_ix (se_var (i := 0)) se_int) (sa_cons (se_var (i := 1)) sa_nil)) T.b_divmod) (pg_sub (pv 0) se_int set_list))
    (sl_one (ss_retV (i := 2))))
    sl_nil)
    (sl_cons (ss_put (i := 0) (se_add (se_ix (se_var (i := 0)) se_int) se_int) (pg_sub (pv 0) se_int set_list))
    (sl_cons (ss_set (i := 3) sc_law_pick.nd rfl (.inl rfl) (se_mod (se_toint (sa_cons (se_add (se_mul (se_ix (se_var (i := 0)) se_int) se_int) (se_mul se_int (se_ix (se_var (i := 0)) se_int))) sa_nil) T.b_int) se_int))
    (sl_cons (ss_put (i := 0) (se_mod (se_toint (sa_cons (se_add (se_mul (se_var (i := 3)) (se_add (se_mod (se_toint (sa_cons (se_var (i := 3)) sa_nil) T.b_int) se_int) se_int)) (se_ix (se_var (i := 0)) se_int)) sa_nil) T.b_int) se_int) (pg_sub (pv 0) se_int set_list))
    (sl_one (ss_ret (se_mod (se_toint (sa_cons (se_fdiv (se_ix (se_var (i := 0)) se_int) se_int) sa_nil) T.b_int) (se_var (i := 1)))))))))).imp fun _ _ _ _ => spOf_run'
theorem sc_law_any_of : FnScope n_law_any_of p_law_any_of (defScope s_law_any_of) := ⟨rfl, rfl, rfl, by decide +kernel, rfl, by decide +kernel, by decide +kernel⟩
theorem bd_law_any_of (T : Txt K mg ad fd) : Binds K (fd 43) p_law_any_of [] := T.d_law_any_of.binds (ps := p_law_any_of) fun _ _ _ _ _ _ us hl => match us, hl with | [_, _], _ => rfl
theorem ok_law_any_of (T : Txt K mg ad fd) : FnG P w K mg base 2 (ad 43) (fd 43) p_law_any_of (spOf K 2 f_law_any_of) := (fnG_of (m := m_law_any_of) T.d_law_any_of sc_law_any_of fun cdv A outer s H E hr hg =>
    (sl_one (ss_ret (se_ix (se_var (i := 1)) (se_call (ok_law_pick T) (hr.mono (by omega)) hg T.m_law_pick T.d_law_pick.kp (bd_law_pick T) (sa_cons (se_var (i := 0)) (sa_cons (se_len (sa_cons (se_var (i := 1)) sa_nil) T.b_len) sa_nil))))))).imp fun _ _ _ _ => spOf_run'
theorem sc_law_frac : FnScope n_law_frac p_law_frac (defScope s_law_frac) := ⟨rfl, rfl, rfl, by decide +kernel, rfl, by decide +kernel, by decide +kernel⟩
theorem bd_law_frac (T : Txt K mg ad fd) : Binds K (fd 44) p_law_frac [] := T.d_law_frac.binds (ps := p_law_frac) fun _ _ _ _ _ _ us hl => match us, hl with | [_, _], _ => rfl
theorem ok_law_frac (T : Txt K mg ad fd) : FnG P w K mg base 1 (ad 44) (fd 44) p_law_frac (spOf K 2 f_law_frac) := (fnG_of (m := m_law_frac) T.d_law_frac sc_law_frac fun cdv A outer s H E hr hg =>
    (sl_cons (ss_par (i := 2) (j := 3) rfl sc_law_frac.nd (sa_cons (se_abs (sa_cons (se_var (i := 0)) sa_nil) T.b_abs) (sa_cons (se_abs (sa_cons (se_var (i := 1)) sa_nil) T.b_abs) sa_nil)))
    (sl_cons (ss_while PassesOwn.never (sb_gt (se_var (i := 3)) se_int)
    (sl_one (ss_par (i := 2) (j := 3) rfl sc_law_frac.nd (sa_cons (se_var (i := 3)) (sa_cons (se_mod (se_toint (sa_cons (se_var (i := 2)) sa_nil) T.b_int) (se_var (i := 3))) sa_nil)))))
    (sl_one (ss_ret (se_if (sb_gt (se_var (i := 1)) se_int) (se_tup (sa_cons (se_fdiv (se_var (i := 0)) (se_var (i := 2))) (sa_cons (se_fdiv (se_var (i := 1)) (se_var (i := 2))) sa_nil))) (se_tup (sa_cons (se_sub se_int (se_fdiv (se_var (i := 0)) (se_var (i := 2)))) (sa_cons (se_sub se_int (se_fdiv (se_var (i := 1)) (se_var (i := 2)))) sa_nil))))))))).imp fun _ _ _ _ => spOf_run'
theorem sc_law_plus : FnScope n_law_plus p_law_plus (defScope s_law_plus) := ⟨rfl, rfl, rfl, by decide +kernel, rfl, by decide +kernel, by decide +kernel⟩
theorem bd_law_plus (T : Txt K mg ad fd) : Binds K (fd 45) p_law_plus [] := T.d_law_plus.binds (ps := p_law_plus) fun _ _ _ _ _ _ us hl => match us, hl with | [_, _], _ => rfl
theorem ok_law_plus (T : Txt K mg ad fd) : FnG P w K mg base 2 (ad 45) (fd 45) p_law_plus (spOf K 2 f_law_plus) := (fnG_of (m := m_law_plus) T.d_law_plus sc_law_plus fun cdv A outer s H E hr hg =>
    (sl_one (ss_ret (se_call (ok_law_frac T) (hr.mono (by omega)) hg T.m_law_frac T.d_law_frac.kp (bd_law_frac T) (sa_cons (se_add (se_mul (se_ix (se_var (i := 0)) se_int) (se_ix (se_var (i := 1)) se_int)) (se_mul (se_ix (se_var (i := 1)) se_int) (se_ix (se_var (i := 0)) se_int))) (sa_cons (se_mul (se_ix (se_var (i := 0)) se_int) (se_ix (se_var (i := 1)) se_int)) sa_nil)))))).imp fun _ _ _ _ => spOf_run'
theorem sc_law_minus : FnScope n_law_minus p_law_minus (defScope s_law_minus) := ⟨rfl, rfl, rfl, by decide +kernel, rfl, by decide +kernel, by decide +kernel⟩
theorem bd_law_minus (T : Txt K mg ad fd) : Binds K (fd 46) p_law_minus [] := T.d_law_minus.binds (ps := p_law_minus) fun _ _ _ _ _ _ us hl => match us, hl with | [_, _], _ => rfl
theorem ok_law_minus (T : Txt K mg ad fd) : FnG P w K mg base 2 (ad 46) (fd 46) p_law_minus (spOf K 2 f_law_minus) := (fnG_of (m := m_law_minus) T.d_law_minus sc_law_minus fun cdv A outer s H E hr hg =>
    (sl_one (ss_ret (se_call (ok_law_frac T) (hr.mono (by omega)) hg T.m_law_frac T.d_law_frac.kp (bd_law_frac T) (sa_cons (se_sub (se_mul (se_ix (se_var (i := 0)) se_int) (se_ix (se_var (i := 1)) se_int)) (se_mul (se_ix (se_var (i := 1)) se_int) (se_ix (se_var (i := 0)) se_int))) (sa_cons (se_mul (se_ix (se_var (i := 0)) se_int) (se_ix (se_var (i := 1)) se_int)) sa_nil)))))).imp fun _ _ _ _ => spOf_run'
theorem sc_law_times : FnScope n_law_times p_law_times (defScope s_law_times) := ⟨rfl, rfl, rfl, by decide +kernel, rfl, by decide +kernel, by decide +kernel⟩
theorem bd_law_times (T : Txt K mg ad fd) : Binds K (fd 47) p_law_times [] := T.d_law_times.binds (ps := p_law_times) fun _ _ _ _ _ _ us hl => match us, hl with | [_, _], _ => rfl
theorem ok_law_times (T : Txt K mg ad fd) : FnG P w K mg base 2 (ad 47) (fd 47) p_law_times (spOf K 2 f_law_times) := (fnG_of (m := m_law_times) T.d_law_times sc_law_times fun cdv A outer s H E hr hg =>
    (sl_one (ss_ret (se_call (ok_law_frac T) (hr.mono (by omega)) hg T.m_law_frac T.d_law_frac.kp (bd_law_frac T) (sa_cons (se_mul (se_ix (se_var (i := 0)) se_int) (se_ix (se_var (i := 1)) se_int)) (sa_cons (se_mul (se_ix (se_var (i := 0)) se_int) (se_ix (se_var (i := 1)) se_int)) sa_nil)))))).imp fun _ _ _ _ => spOf_run'
end
end WW
namespace WW
open PySem PySem.Spec L2 Dh
section
variable {P : Program} {w : World} {K : PySem.W.Frag} {mg : Str → Option Value} {base : Heap} {ad : Nat → Addr} {fd : Nat → FuncData}
theorem sc_law_over : FnScope n_law_over p_law_over (defScope s_law_over) := ⟨rfl, rfl, rfl, by decide +kernel, rfl, by decide +kernel, by decide +kernel⟩
theorem bd_law_over (T : Txt K mg ad fd) : Binds K (fd 48) p_law_over [] := T.d_law_over.binds (ps := p_law_over) fun _ _ _ _ _ _ us hl => match us, hl with | [_, _], _ => rfl
theorem ok_law_over (T : Txt K mg ad fd) : FnG P w K mg base 2 (ad 48) (fd 48) p_law_over (spOf K 2 f_law_over) := (fnG_of (m := m_law_over) T.d_law_over sc_law_over fun cdv A outer s H E hr hg =>
    (sl_one (ss_ret (se_call (ok_law_frac T) (hr.mono (by omega)) hg T.m_law_frac T.d_law_frac.kp (bd_law_frac T) (sa_cons (se_mul (se_ix (se_var (i := 0)) se_int) (se_ix (se_var (i := 1)) se_int)) (sa_cons (se_mul (se_ix (se_var (i := 0)) se_int) (se_ix (se_var (i := 1)) se_int)) sa_nil)))))).imp fun _ _ _ _ => spOf_run'
theorem sc_law_total : FnScope n_law_total p_law_total (defScope s_law_total) := ⟨rfl, rfl, rfl, by decide +kernel, rfl, by decide +kernel, by decide +kernel⟩
theorem bd_law_total (T : Txt K mg ad fd) : Binds K (fd 49) p_law_total [] := T.d_law_total.binds (ps := p_law_total) fun _ _ _ _ _ _ us hl => match us, hl with | [_], _ => rfl
theorem ok_law_total (T : Txt K mg ad fd) : FnG P w K mg base 3 (ad 49) (fd 49) p_law_total (spOf K 1 f_law_total) := (fnG_of (m := m_law_total) T.d_law_total sc_law_total fun cdv A outer s H E hr hg =>
    (sl_cons (ss_set (i := 1) sc_law_total.nd rfl (.inl rfl) (se_tup (sa_cons se_int (sa_cons se_int sa_nil))))
    (sl_cons (ss_for PassesOwn.never rfl (si_seq (se_var (i := 0))) (sg_name (i := 2) sc_law_total.nd)
    (sl_one (ss_set (i := 1) sc_law_total.nd rfl (.inl rfl) (se_call (ok_law_plus T) (hr.mono (by omega)) hg T.m_law_plus T.d_law_plus.kp (bd_law_plus T) (sa_cons (se_var (i := 1)) (sa_cons (se_var (i := 2)) sa_nil))))))
    (sl_one (ss_retV (i := 1)))))).imp fun _ _ _ _ => spOf_run'
theorem sc_law_part : FnScope n_law_part p_law_part (defScope s_law_part) := ⟨rfl, rfl, rfl, by decide +kernel, rfl, by decide +kernel, by decide +kernel⟩
theorem bd_law_part (T : Txt K mg ad fd) : Binds K (fd 50) p_law_part [] := T.d_law_part.binds (ps := p_law_part) fun _ _ _ _ _ _ us hl => match us, hl with | [_], _ => rfl
theorem ok_law_part (T : Txt K mg ad fd) : FnG P w K mg base 2 (ad 50) (fd 50) p_law_part (spOf K 1 f_law_part) := (fnG_of (m := m_law_part) T.d_law_part sc_law_part fun cdv A outer s H E hr hg =>
    (sl_cons (ss_set (i := 1) sc_law_part.nd rfl (.inl rfl) (se_call (ok_law_pick T) (hr.mono (by omega)) hg T.m_law_pick T.d_law_pick.kp (bd_law_pick T) (sa_cons (se_var (i := 0)) (sa_cons se_int sa_nil))))
    (sl_cons (ss_if (sb_lt (se_var (i := 1)) se_int)
    (sl_one (ss_ret (se_ix (se_tup (sa_cons (se_tup (sa_cons se_int (sa_cons se_int sa_nil))) (sa_cons (se_tup (sa_cons se_int (sa_cons se_int sa_nil))) (sa_cons (se_tup (sa_cons se_int (sa_cons se_int sa_nil))) (sa_cons (se_tup (sa_cons se_int (sa_cons se_int sa_nil))) (sa_cons (se_tup (sa_cons se_int (sa_cons se_int sa_nil))) (sa_cons (se_tup (sa_cons se_int (sa_cons se_int sa_nil))) (sa_cons (se_tup (sa_cons se_int (sa_cons se_int sa_nil))) sa_nil)))))))) (se_var (i := 1)))))
    sl_nil)
    (sl_cons (ss_set (i := 2) sc_law_part.nd rfl (.inl rfl) (se_add se_int (se_call (ok_law_pick T) (hr.mono (by omega)) hg T.m_law_pick T.d_law_pick.kp (bd_law_pick T) (sa_cons (se_var (i := 0)) (sa_cons se_int sa_nil)))))
    (sl_one (ss_ret (se_call (ok_law_frac T) (hr.mono (by omega)) hg T.m_law_frac T.d_law_frac.kp (bd_law_frac T) (sa_cons (se_call (ok_law_pick T) (hr.mono (by omega)) hg T.m_law_pick T.d_law_pick.kp (bd_law_pick T) (sa_cons (se_var (i := 0)) (sa_cons (se_var (i := 2)) sa_nil))) (sa_cons (se_var (i := 2)) sa_nil))))))))).imp fun _ _ _ _ => spOf_run'
theorem sc_law_gains : FnScope n_law_gains p_law_gains (defScope s_law_gains) := ⟨rfl, rfl, rfl, by decide +kernel, rfl, by decide +kernel, by decide +kernel⟩
theorem bd_law_gains (T : Txt K mg ad fd) : Binds K (fd 51) p_law_gains [] := T.d_law_gains.binds (ps := p_law_gains) fun _ _ _ _ _ _ us hl => match us, hl with | [_, _], _ => rfl
theorem ok_law_gains (T : Txt K mg ad fd) : FnG P w K mg base 3 (ad 51) (fd 51) p_law_gains (spOf K 2 f_law_gains) := (fnG_of (m := m_law_gains) T.d_law_gains sc_law_gains fun cdv A outer s H E hr hg =>
    (sl_cons (ss_set (i := 2) sc_law_gains.nd rfl (.inl rfl) (se_lst sa_nil))
    (sl_cons (ss_for PassesOwn.never rfl (si_range1 (sa_cons (se_var (i := 1)) sa_nil) T.b_range) (sg_name (i := 3) sc_law_gains.nd)
    (sl_one (ss_if (sb_eq hr (se_call (ok_law_pick T) (hr.mono (by omega)) hg T.m_law_pick T.d_law_pick.kp (bd_law_pick T) (sa_cons (se_var (i := 0)) (sa_cons se_int sa_nil))) se_int)
    (sl_one (ss_append (i := 2) (se_call (ok_law_frac T) (hr.mono (by omega)) hg T.m_law_frac T.d_law_frac.kp (bd_law_frac T) (sa_cons (se_sub (se_call (ok_law_pick T) (hr.mono (by omega)) hg T.m_law_pick T.d_law_pick.kp (bd_law_pick T) (sa_cons (se_var (i := 0)) (sa_cons se_int sa_nil))) se_int) (sa_cons (se_add se_int (se_call (ok_law_pick T) (hr.mono (by omega)) hg T.m_law_pick T.d_law_pick.kp (bd_law_pick T) (sa_cons (se_var (i := 0)) (sa_cons se_int sa_nil)))) sa_nil)))))
    (sl_one (ss_append (i := 2) (se_call (ok_law_frac T) (hr.mono (by omega)) hg T.m_law_frac T.d_law_frac.kp (bd_law_frac T) (sa_cons (se_sub (se_call (ok_law_pick T) (hr.mono (by omega)) hg T.m_law_pick T.d_law_pick.kp (bd_law_pick T) (sa_cons (se_var (i := 0)) (sa_cons se_int sa_nil))) se_int) (sa_cons (se_call (ok_law_any_of T) (hr.mono (by omega)) hg T.m_law_any_of T.d_law_any_of.kp (bd_law_any_of T) (sa_cons (se_var (i := 0)) (sa_cons (se_tup (sa_cons se_int (sa_cons se_int (sa_cons se_int (sa_cons se_int (sa_cons se_int sa_nil)))))) sa_nil))) sa_nil))))))))
    (sl_one (ss_ret (se_tuple (sa_cons (se_var (i := 2)) sa_nil) T.b_tuple)))))).imp fun _ _ _ _ => spOf_run'
theorem sc_law_parts : FnScope n_law_parts p_law_parts (defScope s_law_parts) := ⟨rfl, rfl, rfl, by decide +kernel, rfl, by decide +kernel, by decide +kernel⟩
theorem bd_law_parts (T : Txt K mg ad fd) : Binds K (fd 52) p_law_parts [] := T.d_law_parts.binds (ps := p_law_parts) fun _ _ _ _ _ _ us hl => match us, hl with | [_, _], _ => rfl
theorem ok_law_parts (T : Txt K mg ad fd) : FnG P w K mg base 2 (ad 52) (fd 52) p_law_parts (spOf K 2 f_law_parts) := (fnG_of (m := m_law_parts) T.d_law_parts sc_law_parts fun cdv A outer s H E hr hg =>
    (sl_cons (ss_set (i := 2) sc_law_parts.nd rfl (.inl rfl) (se_lst sa_nil))
    (sl_cons (ss_for PassesOwn.never rfl (si_range1 (sa_cons (se_var (i := 1)) sa_nil) T.b_range) (sg_name (i := 3) sc_law_parts.nd)
    (sl_cons (ss_set (i := 4) sc_law_parts.nd rfl (.inl rfl) (se_call (ok_law_pick T) (hr.mono (by omega)) hg T.m_law_pick T.d_law_pick.kp (bd_law_pick T) (sa_cons (se_var (i := 0)) (sa_cons se_int sa_nil))))
    (sl_one (ss_append (i := 2) (se_if (sb_lt (se_var (i := 4)) se_int) (se_ix (se_tup (sa_cons se_int (sa_cons se_int (sa_cons se_int (sa_cons se_int (sa_cons se_int (sa_cons se_int (sa_cons se_int (sa_cons se_int (sa_cons se_int (sa_cons se_int (sa_cons se_int (sa_cons se_int sa_nil))))))))))))) (se_var (i := 4))) (se_add se_int (se_call (ok_law_pick T) (hr.mono (by omega)) hg T.m_law_pick T.d_law_pick.kp (bd_law_pick T) (sa_cons (se_var (i := 0)) (sa_cons se_int sa_nil)))))))))
    (sl_cons (ss_if (sb_eq hr (se_sum rfl (sa_cons (se_var (i := 2)) sa_nil) T.b_sum) se_int)
    (sl_one (ss_put (i := 2) se_int (pg_sub (pv 2) (se_call (ok_law_pick T) (hr.mono (by omega)) hg T.m_law_pick T.d_law_pick.kp (bd_law_pick T) (sa_cons (se_var (i := 0)) (sa_cons (se_var (i := 1)) sa_nil))) set_list)))
    sl_nil)
    (sl_one (ss_retV (i := 2))))))).imp fun _ _ _ _ => spOf_run'
theorem sc_law_chances : FnScope n_law_chances p_law_chances (defScope s_law_chances) := ⟨rfl, rfl, rfl, by decide +kernel, rfl, by decide +kernel, by decide +kernel⟩
theorem bd_law_chances (T : Txt K mg ad fd) : Binds K (fd 53) p_law_chances [] := T.d_law_chances.binds (ps := p_law_chances) fun _ _ _ _ _ _ us hl => match us, hl with | [_, _], _ => rfl
theorem ok_law_chances (T : Txt K mg ad fd) : FnG P w K mg base 3 (ad 53) (fd 53) p_law_chances (spOf K 2 f_law_chances) := (fnG_of (m := m_law_chances) T.d_law_chances sc_law_chances fun cdv A outer s H E hr hg =>
    (sl_cons (ss_set (i := 2) sc_law_chances.nd rfl (.inr rfl) (se_call (ok_law_parts T) (hr.mono (by omega)) hg T.m_law_parts T.d_law_parts.kp (bd_law_parts T) (sa_cons (se_var (i := 0)) (sa_cons (se_var (i := 1)) sa_nil))))
    (sl_one (ss_ret (se_tuple (sa_cons (se_lc (own := [("_law_at", 3)]) (is := [3]) rfl sc_law_chances.nd (si_range1 (sa_cons (se_var (i := 1)) sa_nil) T.b_range) (blkOk_by (own := [("_law_at", 3)]) (N := n_law_chances) (sc := defScope s_law_chances) (by decide +kernel)) (by decide) (fun _ _ _ _ _ => (sg_name (i := 3) sc_law_chances.nd)) (fun _ _ _ _ _ => sts_one (sb_gt (se_ix (se_var (i := 2)) (se_var (i := 3))) se_int)) (fun _ _ _ _ _ => (se_tup (sa_cons (se_var (i := 3)) (sa_cons (se_call (ok_law_frac T) (hr.mono (by omega)) hg T.m_law_frac T.d_law_frac.kp (bd_law_frac T) (sa_cons (se_ix (se_var (i := 2)) (se_var (i := 3))) (sa_cons (se_sum rfl (sa_cons (se_var (i := 2)) sa_nil) T.b_sum) sa_nil))) sa_nil))))) sa_nil) T.b_tuple))))).imp fun _ _ _ _ => spOf_run'
theorem sc_law_sized : FnScope n_law_sized p_law_sized (defScope s_law_sized) := ⟨rfl, rfl, rfl, by decide +kernel, rfl, by decide +kernel, by decide +kernel⟩
theorem bd_law_sized (T : Txt K mg ad fd) : Binds K (fd 54) p_law_sized [] := T.d_law_sized.binds (ps := p_law_sized) fun _ _ _ _ _ _ us hl => match us, hl with | [_, _, _], _ => rfl
theorem ok_law_sized (T : Txt K mg ad fd) : FnG P w K mg base 4 (ad 54) (fd 54) p_law_sized (spOf K 3 f_law_sized) := (fnG_of (m := m_law_sized) T.d_law_sized sc_law_sized fun cdv A outer s H E hr hg =>
    (sl_cons (ss_par (i := 3) (j := 4) rfl sc_law_sized.nd (sa_cons (se_call (ok_law_part T) (hr.mono (by omega)) hg T.m_law_part T.d_law_part.kp (bd_law_part T) (sa_cons (se_var (i := 0)) sa_nil)) (sa_cons (se_lst sa_nil) sa_nil)))
    (sl_cons (ss_for PassesOwn.never rfl (si_seq (se_var (i := 1))) (sg_name (i := 5) sc_law_sized.nd)
    (sl_cons (ss_set (i := 6) sc_law_sized.nd rfl (.inl rfl) (se_lst sa_nil))
    (sl_cons (ss_for PassesOwn.never rfl (si_range1 (sa_cons (se_var (i := 5)) sa_nil) T.b_range) (sg_name (i := 7) sc_law_sized.nd)
    (sl_one (ss_if (sb_w (sw_and (sb_ne hr (se_var (i := 6)) (se_lst sa_nil)) (sw_and1 (sb_eq hr (se_call (ok_law_pick T) (hr.mono (by omega)) hg T.m_law_pick T.d_law_pick.kp (bd_law_pick T) (sa_cons (se_var (i := 0)) (sa_cons se_int sa_nil))) se_int))))
    (sl_one (ss_append (i := 6) (se_ix (se_var (i := 6)) se_int)))
    (sl_cons (ss_set (i := 8) sc_law_sized.nd rfl (.inl rfl) (se_call (ok_law_chances T) (hr.mono (by omega)) hg T.m_law_chances T.d_law_chances.kp (bd_law_chances T) (sa_cons (se_var (i := 0)) (sa_cons (se_len (sa_cons (se_var (i := 1)) sa_nil) T.b_len) sa_nil))))
    (sl_one (ss_append (i := 6) (se_tup (sa_cons (se_var (i := 8)) (sa_cons (se_call (ok_law_gains T) (hr.mono (by omega)) hg T.m_law_gains T.d_law_gains.kp (bd_law_gains T) (sa_cons (se_var (i := 0)) (sa_cons (se_var (i := 2)) sa_nil))) sa_nil)))))))))
    (sl_one (ss_append (i := 4) (se_tuple (sa_cons (se_var (i := 6)) sa_nil) T.b_tuple))))))
    (sl_one (ss_ret (se_tup (sa_cons (se_var (i := 3)) (sa_cons (se_var (i := 2)) (sa_cons (se_tuple (sa_cons (se_var (i := 4)) sa_nil) T.b_tuple) sa_nil))))))))).imp fun _ _ _ _ => spOf_run'
theorem sc_law_world : FnScope n_law_world p_law_world (defScope s_law_world) := ⟨rfl, rfl, rfl, by decide +kernel, rfl, by decide +kernel, by decide +kernel⟩
theorem bd_law_world (T : Txt K mg ad fd) : Binds K (fd 55) p_law_world [] := T.d_law_world.binds (ps := p_law_world) fun _ _ _ _ _ _ us hl => match us, hl with | [_, _, _, _], _ => rfl
theorem ok_law_world (T : Txt K mg ad fd) : FnG P w K mg base 5 (ad 55) (fd 55) p_law_world (spOf K 4 f_law_world) := (fnG_of (m := m_law_world) T.d_law_world sc_law_world fun cdv A outer s H E hr hg =>
    (sl_cons (ss_set (i := 4) sc_law_world.nd rfl (.inl rfl) (se_lst sa_nil))
    (sl_cons (ss_for PassesOwn.never rfl (si_range1 (sa_cons (se_add se_int (se_call (ok_law_pick T) (hr.mono (by omega)) hg T.m_law_pick T.d_law_pick.kp (bd_law_pick T) (sa_cons (se_var (i := 0)) (sa_cons (se_var (i := 1)) sa_nil)))) sa_nil) T.b_range) (sg_name (i := 5) sc_law_world.nd)
    (sl_one (ss_append (i := 4) (se_add se_int (se_call (ok_law_pick T) (hr.mono (by omega)) hg T.m_law_pick T.d_law_pick.kp (bd_law_pick T) (sa_cons (se_var (i := 0)) (sa_cons (se_var (i := 2)) sa_nil)))))))
    (sl_one (ss_frz [4] (ss_ret (se_call (ok_law_sized T) (hr.mono (by omega)) hg T.m_law_sized T.d_law_sized.kp (bd_law_sized T) (sa_cons (se_var (i := 0)) (sa_cons (se_var (i := 4)) (sa_cons (se_var (i := 3)) sa_nil)))))))))).imp fun _ _ _ _ => spOf_run'
theorem sc_law_sure : FnScope n_law_sure p_law_sure (defScope s_law_sure) := ⟨rfl, rfl, rfl, by decide +kernel, rfl, by decide +kernel, by decide +kernel⟩
theorem bd_law_sure (T : Txt K mg ad fd) : Binds K (fd 56) p_law_sure [] := T.d_law_sure.binds (ps := p_law_sure) fun _ _ _ _ _ _ us hl => match us, hl with | [_, _], _ => rfl
theorem ok_law_sure (T : Txt K mg ad fd) : FnG P w K mg base 1 (ad 56) (fd 56) p_law_sure (spOf K 2 f_law_sure) := (fnG_of (m := m_law_sure) T.d_law_sure sc_law_sure fun cdv A outer s H E hr hg =>
    (sl_cons (ss_set (i := 2) sc_law_sure.nd rfl (.inl rfl) (se_lst sa_nil))
    (sl_cons (ss_for PassesOwn.never rfl (si_z2 (sa_cons (se_ix (se_var (i := 0)) se_int) (sa_cons (se_var (i := 1)) sa_nil)) T.b_zip) (sg_tup rfl (sgs_cons (sg_name (i := 3) sc_law_sure.nd) (sgs_cons (sg_name (i := 4) sc_law_sure.nd) sgs_nil)))
    (sl_one (ss_append (i := 2) (se_tuple (sa_cons (se_lc (own := [("_law_spot", 5)]) (is := [5]) rfl sc_law_sure.nd (si_range1 (sa_cons (se_len (sa_cons (se_var (i := 3)) sa_nil) T.b_len) sa_nil) T.b_range) (blkOk_by (own := [("_law_spot", 5)]) (N := n_law_sure) (sc := defScope s_law_sure) (by decide +kernel)) (by decide) (fun _ _ _ _ _ => (sg_name (i := 5) sc_law_sure.nd)) (fun _ _ _ _ _ => sts_nil) (fun _ _ _ _ _ => (se_tup (sa_cons (se_if (sb_eq hr (se_var (i := 5)) (se_var (i := 4))) se_int se_int) (sa_cons se_int sa_nil))))) sa_nil) T.b_tuple))))
    (sl_one (ss_ret (se_tuple (sa_cons (se_var (i := 2)) sa_nil) T.b_tuple)))))).imp fun _ _ _ _ => spOf_run'
theorem sc_law_ends : FnScope n_law_ends p_law_ends (defScope s_law_ends) := ⟨rfl, rfl, rfl, by decide +kernel, rfl, by decide +kernel, by decide +kernel⟩
theorem bd_law_ends (T : Txt K mg ad fd) : Binds K (fd 57) p_law_ends [] := T.d_law_ends.binds (ps := p_law_ends) fun _ _ _ _ _ _ us hl => match us, hl with | [_, _], _ => rfl
theorem ok_law_ends (T : Txt K mg ad fd) : FnG P w K mg base 3 (ad 57) (fd 57) p_law_ends (spOf K 2 f_law_ends) := (fnG_of (m := m_law_ends) T.d_law_ends sc_law_ends fun cdv A outer s H E hr hg =>
    (sl_cons (ss_set (i := 2) sc_law_ends.nd rfl (.inr rfl) (se_call (ok_law_parts T) (hr.mono (by omega)) hg T.m_law_parts T.d_law_parts.kp (bd_law_parts T) (sa_cons (se_var (i := 0)) (sa_cons (se_var (i := 1)) sa_nil))))
    (sl_one (ss_ret (se_tuple (sa_cons (se_lc (own := [("_law_at", 3)]) (is := [3]) rfl sc_law_ends.nd (si_range1 (sa_cons (se_var (i := 1)) sa_nil) T.b_range) (blkOk_by (own := [("_law_at", 3)]) (N := n_law_ends) (sc := defScope s_law_ends) (by decide +kernel)) (by decide) (fun _ _ _ _ _ => (sg_name (i := 3) sc_law_ends.nd)) (fun _ _ _ _ _ => sts_one (sb_gt (se_ix (se_var (i := 2)) (se_var (i := 3))) se_int)) (fun _ _ _ _ _ => (se_var (i := 3)))) sa_nil) T.b_tuple))))).imp fun _ _ _ _ => spOf_run'
theorem sc_law_moves : FnScope n_law_moves p_law_moves (defScope s_law_moves) := ⟨rfl, rfl, rfl, by decide +kernel, rfl, by decide +kernel, by decide +kernel⟩
theorem bd_law_moves (T : Txt K mg ad fd) : Binds K (fd 58) p_law_moves [] := T.d_law_moves.binds (ps := p_law_moves) fun _ _ _ _ _ _ us hl => match us, hl with | [_, _], _ => rfl
theorem ok_law_moves (T : Txt K mg ad fd) : FnG P w K mg base 3 (ad 58) (fd 58) p_law_moves (spOf K 2 f_law_moves) := (fnG_of (m := m_law_moves) T.d_law_moves sc_law_moves fun cdv A outer s H E hr hg =>
    (sl_cons (ss_set (i := 2) sc_law_moves.nd rfl (.inl rfl) (se_lst sa_nil))
    (sl_cons (ss_for PassesOwn.never rfl (si_z2 (sa_cons (se_ix (se_var (i := 0)) se_int) (sa_cons (se_var (i := 1)) sa_nil)) T.b_zip) (sg_tup rfl (sgs_cons (sg_name (i := 3) sc_law_moves.nd) (sgs_cons (sg_name (i := 4) sc_law_moves.nd) sgs_nil)))
    (sl_cons (ss_set (i := 5) sc_law_moves.nd rfl (.inl rfl) (se_mul (se_lst (sa_cons (se_tup (sa_cons se_int (sa_cons se_int sa_nil))) sa_nil)) (se_len (sa_cons (se_ix (se_var (i := 0)) se_int) sa_nil) T.b_len)))
    (sl_cons (ss_for PassesOwn.never rfl (si_z2 (sa_cons (se_var (i := 3)) (sa_cons (se_var (i := 4)) sa_nil)) T.b_zip) (sg_tup rfl (sgs_cons (sg_name (i := 6) sc_law_moves.nd) (sgs_cons (sg_name (i := 7) sc_law_moves.nd) sgs_nil)))
    (sl_one (ss_for PassesOwn.never rfl (si_seq (se_ix (se_var (i := 6)) se_int)) (sg_tup rfl (sgs_cons (sg_name (i := 8) sc_law_moves.nd) (sgs_cons (sg_name (i := 9) sc_law_moves.nd) sgs_nil)))
    (sl_one (ss_put (i := 5) (se_call (ok_law_plus T) (hr.mono (by omega)) hg T.m_law_plus T.d_law_plus.kp (bd_law_plus T) (sa_cons (se_ix (se_var (i := 5)) (se_var (i := 8))) (sa_cons (se_call (ok_law_times T) (hr.mono (by omega)) hg T.m_law_times T.d_law_times.kp (bd_law_times T) (sa_cons (se_var (i := 7)) (sa_cons (se_var (i := 9)) sa_nil))) sa_nil))) (pg_sub (pv 5) (se_var (i := 8)) set_list))))))
    (sl_one (ss_frz [5] (ss_append (i := 2) (se_var (i := 5))))))))
    (sl_one (ss_retV (i := 2)))))).imp fun _ _ _ _ => spOf_run'
theorem sc_law_solved : FnScope n_law_solved p_law_solved (defScope s_law_solved) := ⟨rfl, rfl, rfl, by decide +kernel, rfl, by decide +kernel, by decide +kernel⟩
theorem bd_law_solved (T : Txt K mg ad fd) : Binds K (fd 59) p_law_solved [] := T.d_law_solved.binds (ps := p_law_solved) fun _ _ _ _ _ _ us hl => match us, hl with | [_], _ => rfl
theorem ok_law_solved (T : Txt K mg ad fd) : FnG P w K mg base 3 (ad 59) (fd 59) p_law_solved (spOf K 1 f_law_solved) := (fnG_of (m := m_law_solved) T.d_law_solved sc_law_solved fun cdv A outer s H E hr hg =>
    (sl_cons (ss_set (i := 1) sc_law_solved.nd rfl (.inr rfl) (se_lc (own := [("_law_row", 6)]) (is := [6]) rfl sc_law_solved.nd (si_seq (se_var (i := 0))) (blkOk_by (own := [("_law_row", 6)]) (N := n_law_solved) (sc := defScope s_law_solved) (by decide +kernel)) (by decide) (fun _ _ _ _ _ => (sg_name (i := 6) sc_law_solved.nd)) (fun _ _ _ _ _ => sts_nil) (fun _ _ _ _ _ => (se_list (sa_cons (se_var (i := 6)) sa_nil) T.b_list))))
    (sl_cons (ss_for PassesOwn.never rfl (si_range1 (sa_cons (se_len (sa_cons (se_var (i := 1)) sa_nil) T.b_len) sa_nil) T.b_range) (sg_name (i := 2) sc_law_solved.nd)
    (sl_cons (ss_set (i := 3) sc_law_solved.nd rfl (.inr rfl) (se_ix (se_ix (se_var (i := 1)) (se_var (i := 2))) (se_var (i := 2))))
    (sl_cons (ss_put (i := 1) (se_lc (own := [("_law_x", 7)]) (is := [7]) rfl sc_law_solved.nd (si_seq (se_ix (se_var (i := 1)) (se_var (i := 2)))) (blkOk_by (own := [("_law_x", 7)]) (N := n_law_solved) (sc := defScope s_law_solved) (by decide +kernel)) (by decide) (fun _ _ _ _ _ => (sg_name (i := 7) sc_law_solved.nd)) (fun _ _ _ _ _ => sts_nil) (fun _ _ _ _ _ => (se_call (ok_law_over T) (hr.mono (by omega)) hg T.m_law_over T.d_law_over.kp (bd_law_over T) (sa_cons (se_var (i := 7)) (sa_cons (se_var (i := 3)) sa_nil))))) (pg_sub (pv 1) (se_var (i := 2)) set_list))
    (sl_one (ss_for PassesOwn.never rfl (si_range1 (sa_cons (se_len (sa_cons (se_var (i := 1)) sa_nil) T.b_len) sa_nil) T.b_range) (sg_name (i := 4) sc_law_solved.nd)
    (sl_cons (ss_set (i := 5) sc_law_solved.nd rfl (.inr rfl) (se_ix (se_ix (se_var (i := 1)) (se_var (i := 4))) (se_var (i := 2))))
    (sl_one (ss_if (sb_w (sw_and (sb_ne hr (se_var (i := 4)) (se_var (i := 2))) (sw_and1 (sb_ne hr (se_ix (se_var (i := 5)) se_int) se_int))))
    (sl_one (ss_put (i := 1) (se_lc (own := [("_law_x", 7), ("_law_y", 8)]) (is := [7, 8]) rfl sc_law_solved.nd (si_z2 (sa_cons (se_ix (se_var (i := 1)) (se_var (i := 4))) (sa_cons (se_ix (se_var (i := 1)) (se_var (i := 2))) sa_nil)) T.b_zip) (blkOk_by (own := [("_law_x", 7), ("_law_y", 8)]) (N := n_law_solved) (sc := defScope s_law_solved) (by decide +kernel)) (by decide) (fun _ _ _ _ _ => (sg_tup rfl (sgs_cons (sg_name (i := 7) sc_law_solved.nd) (sgs_cons (sg_name (i := 8) sc_law_solved.nd) sgs_nil)))) (fun _ _ _ _ _ => sts_nil) (fun _ _ _ _ _ => (se_call (ok_law_minus T) (hr.mono (by omega)) hg T.m_law_minus T.d_law_minus.kp (bd_law_minus T) (sa_cons (se_var (i := 7)) (sa_cons (se_call (ok_law_times T) (hr.mono (by omega)) hg T.m_law_times T.d_law_times.kp (bd_law_times T) (sa_cons (se_var (i := 5)) (sa_cons (se_var (i := 8)) sa_nil))) sa_nil))))) (pg_sub (pv 1) (se_var (i := 4)) set_list)))
    sl_nil))))))))
    (sl_one (ss_frz [1] (ss_ret (se_lc (own := [("_law_row", 6)]) (is := [6]) rfl sc_law_solved.nd (si_seq (se_var (i := 1))) (blkOk_by (own := [("_law_row", 6)]) (N := n_law_solved) (sc := defScope s_law_solved) (by decide +kernel)) (by decide) (fun _ _ _ _ _ => (sg_name (i := 6) sc_law_solved.nd)) (fun _ _ _ _ _ => sts_nil) (fun _ _ _ _ _ => (se_tuple (sa_cons (se_sl (se_var (i := 6)) (so_some (se_len (sa_cons (se_var (i := 1)) sa_nil) T.b_len)) so_none) sa_nil) T.b_tuple))))))))).imp fun _ _ _ _ => spOf_run'
theorem sc_law_choices : FnScope n_law_choices p_law_choices (defScope s_law_choices) := ⟨rfl, rfl, rfl, by decide +kernel, rfl, by decide +kernel, by decide +kernel⟩
theorem bd_law_choices (T : Txt K mg ad fd) : Binds K (fd 60) p_law_choices [] := T.d_law_choices.binds (ps := p_law_choices) fun _ _ _ _ _ _ us hl => match us, hl with | [_], _ => rfl
theorem ok_law_choices (T : Txt K mg ad fd) : FnG P w K mg base 1 (ad 60) (fd 60) p_law_choices (spOf K 1 f_law_choices) := (fnG_of (m := m_law_choices) T.d_law_choices sc_law_choices fun cdv A outer s H E hr hg =>
    (sl_cons (ss_set (i := 1) sc_law_choices.nd rfl (.inl rfl) (se_lst (sa_cons (se_tup sa_nil) sa_nil)))
    (sl_cons (ss_for PassesOwn.never rfl (si_seq (se_ix (se_var (i := 0)) se_int)) (sg_name (i := 2) sc_law_choices.nd)
    (sl_cons (ss_set (i := 3) sc_law_choices.nd rfl (.inl rfl) (se_lst sa_nil))
    (sl_cons (ss_frz [1] (ss_for PassesOwn.never rfl (si_seq (se_var (i := 1))) (sg_name (i := 4) sc_law_choices.nd)
    (sl_one (ss_for PassesOwn.never rfl (si_range1 (sa_cons (se_len (sa_cons (se_var (i := 2)) sa_nil) T.b_len) sa_nil) T.b_range) (sg_name (i := 5) sc_law_choices.nd)
    (sl_one (ss_append (i := 3) (se_add (se_var (i := 4)) (se_tup (sa_cons (se_var (i := 5)) sa_nil)))))))))
    (sl_one (ss_frz [3] (ss_set (i := 1) sc_law_choices.nd rfl (.inl rfl) (se_var (i := 3))))))))
    (sl_one (ss_retV (i := 1)))))).imp fun _ _ _ _ => spOf_run'
theorem sc_law_leads : FnScope n_law_leads p_law_leads (defScope s_law_leads) := ⟨rfl, rfl, rfl, by decide +kernel, rfl, by decide +kernel, by decide +kernel⟩
theorem bd_law_leads (T : Txt K mg ad fd) : Binds K (fd 61) p_law_leads [] := T.d_law_leads.binds (ps := p_law_leads) fun _ _ _ _ _ _ us hl => match us, hl with | [_, _], _ => rfl
theorem ok_law_leads (T : Txt K mg ad fd) : FnG P w K mg base 1 (ad 61) (fd 61) p_law_leads (spOf K 2 f_law_leads) := (fnG_of (m := m_law_leads) T.d_law_leads sc_law_leads fun cdv A outer s H E hr hg =>
    (sl_one (ss_ret (se_any rfl (sa_cons (se_lc (own := [("_law_to", 2)]) (is := [2]) rfl sc_law_leads.nd (si_seq (se_var (i := 1))) (blkOk_by (own := [("_law_to", 2)]) (N := n_law_leads) (sc := defScope s_law_leads) (by decide +kernel)) (by decide) (fun _ _ _ _ _ => (sg_name (i := 2) sc_law_leads.nd)) (fun _ _ _ _ _ => sts_nil) (fun _ _ _ _ _ => (se_gt (se_ix (se_ix (se_var (i := 0)) (se_var (i := 2))) se_int) se_int))) sa_nil) T.b_any)))).imp fun _ _ _ _ => spOf_run'
theorem sc_law_coming : FnScope n_law_coming p_law_coming (defScope s_law_coming) := ⟨rfl, rfl, rfl, by decide +kernel, rfl, by decide +kernel, by decide +kernel⟩
theorem bd_law_coming (T : Txt K mg ad fd) : Binds K (fd 62) p_law_coming [] := T.d_law_coming.binds (ps := p_law_coming) fun _ _ _ _ _ _ us hl => match us, hl with | [_, _, _], _ => rfl
theorem ok_law_coming (T : Txt K mg ad fd) : FnG P w K mg base 4 (ad 62) (fd 62) p_law_coming (spOf K 3 f_law_coming) := (fnG_of (m := m_law_coming) T.d_law_coming sc_law_coming fun cdv A outer s H E hr hg =>
    (sl_cons (ss_asg (se_tup (sa_cons (se_call (ok_law_moves T) (hr.mono (by omega)) hg T.m_law_moves T.d_law_moves.kp (bd_law_moves T) (sa_cons (se_var (i := 0)) (sa_cons (se_var (i := 2)) sa_nil))) (sa_cons (se_list (sa_cons (se_var (i := 1)) sa_nil) T.b_list) sa_nil))) (sg_tup rfl (sgs_cons (sg_name (i := 3) sc_law_coming.nd) (sgs_cons (sg_name (i := 4) sc_law_coming.nd) sgs_nil))))
    (sl_cons (ss_set (i := 5) sc_law_coming.nd rfl (.inl rfl) (se_len (sa_cons (se_var (i := 3)) sa_nil) T.b_len))
    (sl_cons (ss_for PassesOwn.never rfl (si_range1 (sa_cons (se_var (i := 5)) sa_nil) T.b_range) (sg_name (i := 6) sc_law_coming.nd)
    (sl_one (ss_frz [4] (ss_set (i := 4) sc_law_coming.nd rfl (.inr rfl) (se_lc (own := [("_law_at", 9)]) (is := [9]) rfl sc_law_coming.nd (si_range1 (sa_cons (se_var (i := 5)) sa_nil) T.b_range) (blkOk_by (own := [("_law_at", 9)]) (N := n_law_coming) (sc := defScope s_law_coming) (by decide +kernel)) (by decide) (fun _ _ _ _ _ => (sg_name (i := 9) sc_law_coming.nd)) (fun _ _ _ _ _ => sts_one (sb_w (sw_or (sb_in hr (se_var (i := 9)) (se_var (i := 4))) (sw_or1 (sb_val (se_call (ok_law_leads T) (hr.mono (by omega)) hg T.m_law_leads T.d_law_leads.kp (bd_law_leads T) (sa_cons (se_ix (se_var (i := 3)) (se_var (i := 9))) (sa_cons (se_var (i := 4)) sa_nil)))))))) (fun _ _ _ _ _ => (se_var (i := 9))))))))
    (sl_cons (ss_frz [4] (ss_par2f (i := 7) (j := 8) rfl sc_law_coming.nd (sa2_cons (se_lc (own := [("_law_at", 9)]) (is := [9]) rfl sc_law_coming.nd (si_seq (se_var (i := 4))) (blkOk_by (own := [("_law_at", 9)]) (N := n_law_coming) (sc := defScope s_law_coming) (by decide +kernel)) (by decide) (fun _ _ _ _ _ => (sg_name (i := 9) sc_law_coming.nd)) (fun _ _ _ _ _ => sts_one (sb_notin hr (se_var (i := 9)) (se_var (i := 1)))) (fun _ _ _ _ _ => (se_var (i := 9)))) (sa2_cons (se_lst sa_nil) sa2_nil))))
    (sl_cons (ss_frz [7] (ss_for PassesOwn.never rfl (si_seq (se_var (i := 7))) (sg_name (i := 9) sc_law_coming.nd)
    (sl_cons (ss_frz [7] (ss_setLc (i := 10) (own := [("_law_to", 13)]) (is := [13]) rfl sc_law_coming.nd rfl rfl (sw_true rfl rfl rfl (by decide +kernel)) (si_seq (se_var (i := 7))) (blkOk_by (own := [("_law_to", 13)]) (N := n_law_coming) (sc := defScope s_law_coming) (by decide +kernel)) (by decide) (fun _ _ _ _ _ => (sg_name (i := 13) sc_law_coming.nd)) (fun _ _ _ _ _ => sts_nil) (fun _ _ _ _ _ => (se_call (ok_law_minus T) (hr.mono (by omega)) hg T.m_law_minus T.d_law_minus.kp (bd_law_minus T) (sa_cons (se_tup (sa_cons (se_if (sb_eq hr (se_var (i := 9)) (se_var (i := 13))) se_int se_int) (sa_cons se_int sa_nil))) (sa_cons (se_ix (se_ix (se_var (i := 3)) (se_var (i := 9))) (se_var (i := 13))) sa_nil))))))
    (sl_one (ss_append (i := 8) (se_add (se_var (i := 10)) (se_lst (sa_cons (se_call (ok_law_total T) (hr.mono (by omega)) hg T.m_law_total T.d_law_total.kp (bd_law_total T) (sa_cons (se_lc (own := [("_law_to", 13)]) (is := [13]) rfl sc_law_coming.nd (si_seq (se_var (i := 1))) (blkOk_by (own := [("_law_to", 13)]) (N := n_law_coming) (sc := defScope s_law_coming) (by decide +kernel)) (by decide) (fun _ _ _ _ _ => (sg_name (i := 13) sc_law_coming.nd)) (fun _ _ _ _ _ => sts_nil) (fun _ _ _ _ _ => (se_ix (se_ix (se_var (i := 3)) (se_var (i := 9))) (se_var (i := 13))))) sa_nil)) sa_nil))))))))
    (sl_cons (ss_setLc (i := 11) (own := [("_law_at", 9)]) (is := [9]) rfl sc_law_coming.nd rfl rfl (sw_true rfl rfl rfl (by decide +kernel)) (si_range1 (sa_cons (se_var (i := 5)) sa_nil) T.b_range) (blkOk_by (own := [("_law_at", 9)]) (N := n_law_coming) (sc := defScope s_law_coming) (by decide +kernel)) (by decide) (fun _ _ _ _ _ => (sg_name (i := 9) sc_law_coming.nd)) (fun _ _ _ _ _ => sts_nil) (fun _ _ _ _ _ => (se_tup (sa_cons (se_if (sb_in hr (se_var (i := 9)) (se_var (i := 1))) se_int se_int) (sa_cons se_int sa_nil)))))
    (sl_cons (ss_frz [7, 8] (ss_for PassesOwn.never rfl (si_z2 (sa_cons (se_var (i := 7)) (sa_cons (se_call (ok_law_solved T) (hr.mono (by omega)) hg T.m_law_solved T.d_law_solved.kp (bd_law_solved T) (sa_cons (se_var (i := 8)) sa_nil)) sa_nil)) T.b_zip) (sg_tup rfl (sgs_cons (sg_name (i := 9) sc_law_coming.nd) (sgs_cons (sg_name (i := 12) sc_law_coming.nd) sgs_nil)))
    (sl_one (ss_put (i := 11) (se_ix (se_var (i := 12)) se_int) (pg_sub (pv 11) (se_var (i := 9)) set_list)))))
    (sl_one (ss_ret (se_tuple (sa_cons (se_var (i := 11)) sa_nil) T.b_tuple))))))))))).imp fun _ _ _ _ => spOf_run'
theorem sc_law_has_stay : FnScope n_law_has_stay p_law_has_stay (defScope s_law_has_stay) := ⟨rfl, rfl, rfl, by decide +kernel, rfl, by decide +kernel, by decide +kernel⟩
theorem bd_law_has_stay (T : Txt K mg ad fd) : Binds K (fd 63) p_law_has_stay [] := T.d_law_has_stay.binds (ps := p_law_has_stay) fun _ _ _ _ _ _ us hl => match us, hl with | [_, _], _ => rfl
theorem ok_law_has_stay (T : Txt K mg ad fd) : FnG P w K mg base 1 (ad 63) (fd 63) p_law_has_stay (spOf K 2 f_law_has_stay) := (fnG_of (m := m_law_has_stay) T.d_law_has_stay sc_law_has_stay fun cdv A outer s H E hr hg =>
    (sl_one (ss_ret (se_any rfl (sa_cons (se_lc (own := [("_law_deed", 2)]) (is := [2]) rfl sc_law_has_stay.nd (si_seq (se_var (i := 0))) (blkOk_by (own := [("_law_deed", 2)]) (N := n_law_has_stay) (sc := defScope s_law_has_stay) (by decide +kernel)) (by decide) (fun _ _ _ _ _ => (sg_name (i := 2) sc_law_has_stay.nd)) (fun _ _ _ _ _ => sts_nil) (fun _ _ _ _ _ => (se_all rfl (sa_cons (se_lc (own := [("_law_part_here", 3)]) (is := [3]) rfl sc_law_has_stay.nd (si_seq (se_ix (se_var (i := 2)) se_int)) (blkOk_by (own := [("_law_part_here", 3)]) (N := n_law_has_stay) (sc := relS _ (defScope s_law_has_stay)) (by decide +kernel)) (by decide) (fun _ _ _ _ _ => (sg_name (i := 3) sc_law_has_stay.nd)) (fun _ _ _ _ _ => sts_nil) (fun _ _ _ _ _ => (se_in hr (se_ix (se_var (i := 3)) se_int) (se_var (i := 1))))) sa_nil) T.b_all))) sa_nil) T.b_any)))).imp fun _ _ _ _ => spOf_run'
end
end WW
namespace WW
open PySem PySem.Spec L2 Dh
section
variable {P : Program} {w : World} {K : PySem.W.Frag} {mg : Str → Option Value} {base : Heap} {ad : Nat → Addr} {fd : Nat → FuncData}
theorem sc_law_never : FnScope n_law_never p_law_never (defScope s_law_never) := ⟨rfl, rfl, rfl, by decide +kernel, rfl, by decide +kernel, by decide +kernel⟩
theorem bd_law_never (T : Txt K mg ad fd) : Binds K (fd 64) p_law_never [] := T.d_law_never.binds (ps := p_law_never) fun _ _ _ _ _ _ us hl => match us, hl with | [_, _], _ => rfl
theorem ok_law_never (T : Txt K mg ad fd) : FnG P w K mg base 2 (ad 64) (fd 64) p_law_never (spOf K 2 f_law_never) := (fnG_of (m := m_law_never) T.d_law_never sc_law_never fun cdv A outer s H E hr hg =>
    (sl_cons (ss_set (i := 2) sc_law_never.nd rfl (.inr rfl) (se_lc (own := [("_law_at", 4)]) (is := [4]) rfl sc_law_never.nd (si_range1 (sa_cons (se_len (sa_cons (se_ix (se_var (i := 0)) se_int) sa_nil) T.b_len) sa_nil) T.b_range) (blkOk_by (own := [("_law_at", 4)]) (N := n_law_never) (sc := defScope s_law_never) (by decide +kernel)) (by decide) (fun _ _ _ _ _ => (sg_name (i := 4) sc_law_never.nd)) (fun _ _ _ _ _ => sts_one (sb_notin hr (se_var (i := 4)) (se_var (i := 1)))) (fun _ _ _ _ _ => (se_var (i := 4)))))
    (sl_cons (ss_for PassesOwn.never rfl (si_range1 (sa_cons (se_len (sa_cons (se_ix (se_var (i := 0)) se_int) sa_nil) T.b_len) sa_nil) T.b_range) (sg_name (i := 3) sc_law_never.nd)
    (sl_one (ss_frz [2] (ss_set (i := 2) sc_law_never.nd rfl (.inr rfl) (se_lc (own := [("_law_at", 4)]) (is := [4]) rfl sc_law_never.nd (si_range1 (sa_cons (se_len (sa_cons (se_ix (se_var (i := 0)) se_int) sa_nil) T.b_len) sa_nil) T.b_range) (blkOk_by (own := [("_law_at", 4)]) (N := n_law_never) (sc := defScope s_law_never) (by decide +kernel)) (by decide) (fun _ _ _ _ _ => (sg_name (i := 4) sc_law_never.nd)) (fun _ _ _ _ _ => sts_one (sb_w (sw_and (sb_in hr (se_var (i := 4)) (se_var (i := 2))) (sw_and1 (sb_val (se_call (ok_law_has_stay T) (hr.mono (by omega)) hg T.m_law_has_stay T.d_law_has_stay.kp (bd_law_has_stay T) (sa_cons (se_ix (se_ix (se_var (i := 0)) se_int) (se_var (i := 4))) (sa_cons (se_var (i := 2)) sa_nil)))))))) (fun _ _ _ _ _ => (se_var (i := 4))))))))
    (sl_one (ss_retV (i := 2)))))).imp fun _ _ _ _ => spOf_run'
theorem sc_law_ranks : FnScope n_law_ranks p_law_ranks (defScope s_law_ranks) := ⟨rfl, rfl, rfl, by decide +kernel, rfl, by decide +kernel, by decide +kernel⟩
theorem bd_law_ranks (T : Txt K mg ad fd) : Binds K (fd 65) p_law_ranks [] := T.d_law_ranks.binds (ps := p_law_ranks) fun _ _ _ _ _ _ us hl => match us, hl with | [_, _], _ => rfl
theorem ok_law_ranks (T : Txt K mg ad fd) : FnG P w K mg base 3 (ad 65) (fd 65) p_law_ranks (spOf K 2 f_law_ranks) := (fnG_of (m := m_law_ranks) T.d_law_ranks sc_law_ranks fun cdv A outer s H E hr hg =>
    (sl_cons (ss_par2t (i := 2) (j := 3) rfl sc_law_ranks.nd (sa2_cons (se_call (ok_law_never T) (hr.mono (by omega)) hg T.m_law_never T.d_law_never.kp (bd_law_never T) (sa_cons (se_var (i := 0)) (sa_cons (se_var (i := 1)) sa_nil))) (sa2_cons (se_lst sa_nil) sa2_nil)))
    (sl_cons (ss_for PassesOwn.never rfl (si_range1 (sa_cons (se_len (sa_cons (se_ix (se_var (i := 0)) se_int) sa_nil) T.b_len) sa_nil) T.b_range) (sg_name (i := 4) sc_law_ranks.nd)
    (sl_one (ss_append (i := 3) (se_if (sb_w (sw_or (sb_in hr (se_var (i := 4)) (se_var (i := 1))) (sw_or1 (sb_in hr (se_var (i := 4)) (se_var (i := 2)))))) se_int (se_add (se_len (sa_cons (se_ix (se_var (i := 0)) se_int) sa_nil) T.b_len) se_int)))))
    (sl_cons (ss_for PassesOwn.never rfl (si_range2 (sa_cons se_int (sa_cons (se_add (se_len (sa_cons (se_ix (se_var (i := 0)) se_int) sa_nil) T.b_len) se_int) sa_nil)) T.b_range) (sg_name (i := 5) sc_law_ranks.nd)
    (sl_cons (ss_set (i := 6) sc_law_ranks.nd rfl (.inr rfl) (se_lc (own := [("_law_at", 4)]) (is := [4]) rfl sc_law_ranks.nd (si_range1 (sa_cons (se_len (sa_cons (se_var (i := 3)) sa_nil) T.b_len) sa_nil) T.b_range) (blkOk_by (own := [("_law_at", 4)]) (N := n_law_ranks) (sc := defScope s_law_ranks) (by decide +kernel)) (by decide) (fun _ _ _ _ _ => (sg_name (i := 4) sc_law_ranks.nd)) (fun _ _ _ _ _ => sts_one (sb_lt (se_ix (se_var (i := 3)) (se_var (i := 4))) (se_var (i := 5)))) (fun _ _ _ _ _ => (se_var (i := 4)))))
    (sl_one (ss_for PassesOwn.never rfl (si_range1 (sa_cons (se_len (sa_cons (se_var (i := 3)) sa_nil) T.b_len) sa_nil) T.b_range) (sg_name (i := 4) sc_law_ranks.nd)
    (sl_cons (ss_setLc (i := 7) (own := [("_law_deed", 8)]) (is := [8]) rfl sc_law_ranks.nd rfl rfl (sw_true rfl rfl rfl (by decide +kernel)) (si_seq (se_ix (se_ix (se_var (i := 0)) se_int) (se_var (i := 4)))) (blkOk_by (own := [("_law_deed", 8)]) (N := n_law_ranks) (sc := defScope s_law_ranks) (by decide +kernel)) (by decide) (fun _ _ _ _ _ => (sg_name (i := 8) sc_law_ranks.nd)) (fun _ _ _ _ _ => sts_nil) (fun _ _ _ _ _ => (se_gt (se_len (sa_cons (se_lc (own := [("_law_part_here", 9)]) (is := [9]) rfl sc_law_ranks.nd (si_seq (se_ix (se_var (i := 8)) se_int)) (blkOk_by (own := [("_law_part_here", 9)]) (N := n_law_ranks) (sc := relS _ (defScope s_law_ranks)) (by decide +kernel)) (by decide) (fun _ _ _ _ _ => (sg_name (i := 9) sc_law_ranks.nd)) (fun _ _ _ _ _ => sts_one (sb_in hr (se_ix (se_var (i := 9)) se_int) (se_var (i := 6)))) (fun _ _ _ _ _ => (se_var (i := 9)))) sa_nil) T.b_len) se_int)))
    (sl_one (ss_if (sb_w (sw_and (sb_notin hr (se_var (i := 4)) (se_var (i := 6))) (sw_and1 (sb_val (se_all rfl (sa_cons (se_var (i := 7)) sa_nil) T.b_all)))))
    (sl_one (ss_put (i := 3) (se_var (i := 5)) (pg_sub (pv 3) (se_var (i := 4)) set_list)))
    sl_nil)))))))
    (sl_one (ss_ret (se_tuple (sa_cons (se_var (i := 3)) sa_nil) T.b_tuple))))))).imp fun _ _ _ _ => spOf_run'
theorem sc_law_ones : FnScope n_law_ones p_law_ones (defScope s_law_ones) := ⟨rfl, rfl, rfl, by decide +kernel, rfl, by decide +kernel, by decide +kernel⟩
theorem bd_law_ones (T : Txt K mg ad fd) : Binds K (fd 66) p_law_ones [] := T.d_law_ones.binds (ps := p_law_ones) fun _ _ _ _ _ _ us hl => match us, hl with | [_, _], _ => rfl
theorem ok_law_ones (T : Txt K mg ad fd) : FnG P w K mg base 5 (ad 66) (fd 66) p_law_ones (spOf K 2 f_law_ones) := (fnG_of (m := m_law_ones) T.d_law_ones sc_law_ones fun cdv A outer s H E hr hg =>
    (sl_cons (ss_set (i := 2) sc_law_ones.nd rfl (.inl rfl) (se_lst sa_nil))
    (sl_cons (ss_for PassesOwn.never rfl (si_seq (se_call (ok_law_choices T) (hr.mono (by omega)) hg T.m_law_choices T.d_law_choices.kp (bd_law_choices T) (sa_cons (se_var (i := 0)) sa_nil))) (sg_name (i := 3) sc_law_ones.nd)
    (sl_cons (ss_set (i := 4) sc_law_ones.nd rfl (.inr rfl) (se_call (ok_law_coming T) (hr.mono (by omega)) hg T.m_law_coming T.d_law_coming.kp (bd_law_coming T) (sa_cons (se_var (i := 0)) (sa_cons (se_var (i := 1)) (sa_cons (se_call (ok_law_sure T) (hr.mono (by omega)) hg T.m_law_sure T.d_law_sure.kp (bd_law_sure T) (sa_cons (se_var (i := 0)) (sa_cons (se_var (i := 3)) sa_nil))) sa_nil)))))
    (sl_one (ss_append (i := 2) (se_lc (own := [("_law_at", 5)]) (is := [5]) rfl sc_law_ones.nd (si_range1 (sa_cons (se_len (sa_cons (se_var (i := 4)) sa_nil) T.b_len) sa_nil) T.b_range) (blkOk_by (own := [("_law_at", 5)]) (N := n_law_ones) (sc := defScope s_law_ones) (by decide +kernel)) (by decide) (fun _ _ _ _ _ => (sg_name (i := 5) sc_law_ones.nd)) (fun _ _ _ _ _ => sts_one (sb_eq hr (se_ix (se_var (i := 4)) (se_var (i := 5))) (se_tup (sa_cons se_int (sa_cons se_int sa_nil))))) (fun _ _ _ _ _ => (se_var (i := 5))))))))
    (sl_one (ss_retV (i := 2)))))).imp fun _ _ _ _ => spOf_run'
theorem sc_law_right : FnScope n_law_right p_law_right (defScope s_law_right) := ⟨rfl, rfl, rfl, by decide +kernel, rfl, by decide +kernel, by decide +kernel⟩
theorem bd_law_right (T : Txt K mg ad fd) : Binds K (fd 67) p_law_right [] := T.d_law_right.binds (ps := p_law_right) fun _ _ _ _ _ _ us hl => match us, hl with | [_], _ => rfl
theorem ok_law_right (T : Txt K mg ad fd) : FnG P w K mg base 11 (ad 67) (fd 67) p_law_right (spOf K 1 f_law_right) := (fnG_of (m := m_law_right) T.d_law_right sc_law_right fun cdv A outer s H E hr hg =>
    (sl_cons (ss_asg (se_call (ok_law_any_of T) (hr.mono (by omega)) hg T.m_law_any_of T.d_law_any_of.kp (bd_law_any_of T) (sa_cons (se_var (i := 0)) (sa_cons (se_tup (sa_cons (se_tup (sa_cons se_int (sa_cons se_int sa_nil))) (sa_cons (se_tup (sa_cons se_int (sa_cons se_int sa_nil))) (sa_cons (se_tup (sa_cons se_int (sa_cons se_int sa_nil))) sa_nil)))) sa_nil))) (sg_tup rfl (sgs_cons (sg_name (i := 1) sc_law_right.nd) (sgs_cons (sg_name (i := 2) sc_law_right.nd) sgs_nil))))
    (sl_cons (ss_set (i := 3) sc_law_right.nd rfl (.inl rfl) (se_call (ok_law_world T) (hr.mono (by omega)) hg T.m_law_world T.d_law_world.kp (bd_law_world T) (sa_cons (se_var (i := 0)) (sa_cons (se_var (i := 1)) (sa_cons (se_var (i := 2)) (sa_cons se_int sa_nil))))))
    (sl_cons (ss_set (i := 4) sc_law_right.nd rfl (.inl rfl) (se_call (ok_law_ends T) (hr.mono (by omega)) hg T.m_law_ends T.d_law_ends.kp (bd_law_ends T) (sa_cons (se_var (i := 0)) (sa_cons (se_len (sa_cons (se_ix (se_var (i := 3)) se_int) sa_nil) T.b_len) sa_nil))))
    (sl_cons (ss_asg (se_tup (sa_cons (se_call (ok_law_ranks T) (hr.mono (by omega)) hg T.m_law_ranks T.d_law_ranks.kp (bd_law_ranks T) (sa_cons (se_var (i := 3)) (sa_cons (se_var (i := 4)) sa_nil))) (sa_cons (se_call (ok_law_ones T) (hr.mono (by omega)) hg T.m_law_ones T.d_law_ones.kp (bd_law_ones T) (sa_cons (se_var (i := 3)) (sa_cons (se_var (i := 4)) sa_nil))) sa_nil))) (sg_tup rfl (sgs_cons (sg_name (i := 5) sc_law_right.nd) (sgs_cons (sg_name (i := 6) sc_law_right.nd) sgs_nil))))
    (sl_cons (ss_set (i := 7) sc_law_right.nd rfl (.inl rfl) (se_lst (sa_cons (se_call (ok_ranks_of T) (hr.mono (by omega)) hg T.m_ranks_of T.d_ranks_of.kp (bd_ranks_of T) (sa_cons (se_var (i := 3)) (sa_cons (se_var (i := 4)) sa_nil))) (sa_cons (se_callK (ks := ["goals", "house"]) (π := [1, 0]) (ok_ranks_of T) (hr.mono (by omega)) hg T.m_ranks_of T.d_ranks_of.kp (kb_ranks_of_10 T) (sk_cons (se_var (i := 4)) (sk_cons (se_var (i := 3)) sk_nil))) sa_nil))))
    (sl_cons (ss_if (sb_ne hr (se_repr hr hg (sa_cons (se_var (i := 7)) sa_nil) T.b_repr) (se_repr hr hg (sa_cons (se_lst (sa_cons (se_var (i := 5)) (sa_cons (se_var (i := 5)) sa_nil))) sa_nil) T.b_repr))
    (sl_one (ss_ret se_bl))
    sl_nil)
    (sl_cons (ss_frz [6] (ss_set (i := 8) sc_law_right.nd rfl (.inl rfl) (se_tuple (sa_cons (se_lc (own := [("_law_at", 10)]) (is := [10]) rfl sc_law_right.nd (si_range1 (sa_cons (se_len (sa_cons (se_var (i := 5)) sa_nil) T.b_len) sa_nil) T.b_range) (blkOk_by (own := [("_law_at", 10)]) (N := n_law_right) (sc := defScope s_law_right) (by decide +kernel)) (by decide) (fun _ _ _ _ _ => (sg_name (i := 10) sc_law_right.nd)) (fun _ _ _ _ _ => sts_one (sb_val (se_any rfl (sa_cons (se_lc (own := [("_law_row", 11)]) (is := [11]) rfl sc_law_right.nd (si_seq (se_var (i := 6))) (blkOk_by (own := [("_law_row", 11)]) (N := n_law_right) (sc := relS _ (defScope s_law_right)) (by decide +kernel)) (by decide) (fun _ _ _ _ _ => (sg_name (i := 11) sc_law_right.nd)) (fun _ _ _ _ _ => sts_nil) (fun _ _ _ _ _ => (se_in hr (se_var (i := 10)) (se_var (i := 11))))) sa_nil) T.b_any))) (fun _ _ _ _ _ => (se_var (i := 10)))) sa_nil) T.b_tuple)))
    (sl_cons (ss_frz [6] (ss_set (i := 9) sc_law_right.nd rfl (.inl rfl) (se_tuple (sa_cons (se_lc (own := [("_law_at", 10)]) (is := [10]) rfl sc_law_right.nd (si_range1 (sa_cons (se_len (sa_cons (se_var (i := 5)) sa_nil) T.b_len) sa_nil) T.b_range) (blkOk_by (own := [("_law_at", 10)]) (N := n_law_right) (sc := defScope s_law_right) (by decide +kernel)) (by decide) (fun _ _ _ _ _ => (sg_name (i := 10) sc_law_right.nd)) (fun _ _ _ _ _ => sts_one (sb_val (se_all rfl (sa_cons (se_lc (own := [("_law_row", 11)]) (is := [11]) rfl sc_law_right.nd (si_seq (se_var (i := 6))) (blkOk_by (own := [("_law_row", 11)]) (N := n_law_right) (sc := relS _ (defScope s_law_right)) (by decide +kernel)) (by decide) (fun _ _ _ _ _ => (sg_name (i := 11) sc_law_right.nd)) (fun _ _ _ _ _ => sts_nil) (fun _ _ _ _ _ => (se_in hr (se_var (i := 10)) (se_var (i := 11))))) sa_nil) T.b_all))) (fun _ _ _ _ _ => (se_var (i := 10)))) sa_nil) T.b_tuple)))
    (sl_cons (ss_set (i := 7) sc_law_right.nd rfl (.inl rfl) (se_lst (sa_cons (se_call (ok_sure_stands T) (hr.mono (by omega)) hg T.m_sure_stands T.d_sure_stands.kp (bd_sure_stands T) (sa_cons (se_var (i := 3)) (sa_cons (se_var (i := 4)) sa_nil))) (sa_cons (se_call (ok_certain_stands T) (hr.mono (by omega)) hg T.m_certain_stands T.d_certain_stands.kp (bd_certain_stands T) (sa_cons (se_var (i := 3)) (sa_cons (se_var (i := 4)) sa_nil))) sa_nil))))
    (sl_cons (ss_set (i := 7) sc_law_right.nd rfl (.inl rfl) (se_add (se_var (i := 7)) (se_lst (sa_cons (se_callK (ks := ["goals", "house"]) (π := [1, 0]) (ok_certain_stands T) (hr.mono (by omega)) hg T.m_certain_stands T.d_certain_stands.kp (kb_certain_stands_10 T) (sk_cons (se_var (i := 4)) (sk_cons (se_var (i := 3)) sk_nil))) (sa_cons (se_callK (ks := ["goals", "house"]) (π := [1, 0]) (ok_sure_stands T) (hr.mono (by omega)) hg T.m_sure_stands T.d_sure_stands.kp (kb_sure_stands_10 T) (sk_cons (se_var (i := 4)) (sk_cons (se_var (i := 3)) sk_nil))) sa_nil)))))
    (sl_one (ss_ret (se_eq hr (se_repr hr hg (sa_cons (se_var (i := 7)) sa_nil) T.b_repr) (se_repr hr hg (sa_cons (se_lst (sa_cons (se_var (i := 8)) (sa_cons (se_var (i := 9)) (sa_cons (se_var (i := 9)) (sa_cons (se_var (i := 8)) sa_nil))))) sa_nil) T.b_repr))))))))))))))).imp fun _ _ _ _ => spOf_run'
theorem sc_law : FnScope n_law p_law (defScope s_law) := ⟨rfl, rfl, rfl, by decide +kernel, rfl, by decide +kernel, by decide +kernel⟩
theorem ok_law (T : Txt K mg ad fd) : FnG P w K mg base 12 (ad 68) (fd 68) p_law (spOf K 1 f_law) := (fnG_of (m := m_law) T.d_law sc_law fun cdv A outer s H E hr hg =>
    (sl_one (ss_ret (se_all rfl (sa_cons (se_lc (own := [("_law_lap", 1)]) (is := [1]) rfl sc_law.nd (si_range1 (sa_cons (se_max2 rfl (sa_cons se_int (sa_cons (se_min2 rfl (sa_cons (se_len (sa_cons (se_var (i := 0)) sa_nil) T.b_len) (sa_cons se_int sa_nil)) T.b_min) sa_nil)) T.b_max) sa_nil) T.b_range) (blkOk_by (own := [("_law_lap", 1)]) (N := n_law) (sc := defScope s_law) (by decide +kernel)) (by decide) (fun _ _ _ _ _ => (sg_name (i := 1) sc_law.nd)) (fun _ _ _ _ _ => sts_nil) (fun _ _ _ _ _ => (se_callN (ok_law_right T) hr hg T.m_law_right T.d_law_right.kp (bd_law_right T) (sa_cons (se_call (ok_law_spring T) (hr.mono (by omega)) hg T.m_law_spring T.d_law_spring.kp (bd_law_spring T) (sa_cons (se_var (i := 0)) (sa_cons (se_var (i := 1)) sa_nil))) sa_nil) (by omega)))) sa_nil) T.b_all)))).imp fun _ _ _ _ => spOf_run'
end
end WW
namespace WW
open PySem PySem.Spec L2 Dh PyProof.Rows
section
theorem all_mk {P : Program} {w : World} {K : PySem.W.Frag} {h : Heap} {mg : Str → Option Value} {fa : Addr}
    {f0 : Addr} {od0 an0 : Option Addr} {sl0 : Array (Option Value)} {oc0 kV0 dc0 pm0 cd0 ct0 : Value}
    {f1 : Addr} {od1 an1 : Option Addr} {sl1 : Array (Option Value)} {oc1 kV1 dc1 pm1 cd1 ct1 : Value}
    {f2 : Addr} {od2 an2 : Option Addr} {sl2 : Array (Option Value)} {oc2 kV2 dc2 pm2 cd2 ct2 : Value}
    {f3 : Addr} {od3 an3 : Option Addr} {sl3 : Array (Option Value)} {oc3 kV3 dc3 pm3 cd3 ct3 : Value}
    {f4 : Addr} {od4 an4 : Option Addr} {sl4 : Array (Option Value)} {oc4 kV4 dc4 pm4 cd4 ct4 : Value}
    {f5 : Addr} {od5 an5 : Option Addr} {sl5 : Array (Option Value)} {oc5 kV5 dc5 pm5 cd5 ct5 : Value}
    {f6 : Addr} {od6 an6 : Option Addr} {sl6 : Array (Option Value)} {oc6 kV6 dc6 pm6 cd6 ct6 : Value}
    {f7 : Addr} {od7 an7 : Option Addr} {sl7 : Array (Option Value)} {oc7 kV7 dc7 pm7 cd7 ct7 : Value}
    {f8 : Addr} {od8 an8 : Option Addr} {sl8 : Array (Option Value)} {oc8 kV8 dc8 pm8 cd8 ct8 : Value}
    {f9 : Addr} {od9 an9 : Option Addr} {sl9 : Array (Option Value)} {oc9 kV9 dc9 pm9 cd9 ct9 : Value}
    {f10 : Addr} {od10 an10 : Option Addr} {sl10 : Array (Option Value)} {oc10 kV10 dc10 pm10 cd10 ct10 : Value}
    {f11 : Addr} {od11 an11 : Option Addr} {sl11 : Array (Option Value)} {oc11 kV11 dc11 pm11 cd11 ct11 : Value}
    {f12 : Addr} {od12 an12 : Option Addr} {sl12 : Array (Option Value)} {oc12 kV12 dc12 pm12 cd12 ct12 : Value}
    {f13 : Addr} {od13 an13 : Option Addr} {sl13 : Array (Option Value)} {oc13 kV13 dc13 pm13 cd13 ct13 : Value}
    {f14 : Addr} {od14 an14 : Option Addr} {sl14 : Array (Option Value)} {oc14 kV14 dc14 pm14 cd14 ct14 : Value}
    {f15 : Addr} {od15 an15 : Option Addr} {sl15 : Array (Option Value)} {oc15 kV15 dc15 pm15 cd15 ct15 : Value}
    {f16 : Addr} {od16 an16 : Option Addr} {sl16 : Array (Option Value)} {oc16 kV16 dc16 pm16 cd16 ct16 : Value}
    {f17 : Addr} {od17 an17 : Option Addr} {sl17 : Array (Option Value)} {oc17 kV17 dc17 pm17 cd17 ct17 : Value}
    {f18 : Addr} {od18 an18 : Option Addr} {sl18 : Array (Option Value)} {oc18 kV18 dc18 pm18 cd18 ct18 : Value}
    {f19 : Addr} {od19 an19 : Option Addr} {sl19 : Array (Option Value)} {oc19 kV19 dc19 pm19 cd19 ct19 : Value}
    {f20 : Addr} {od20 an20 : Option Addr} {sl20 : Array (Option Value)} {oc20 kV20 dc20 pm20 cd20 ct20 : Value}
    {f21 : Addr} {od21 an21 : Option Addr} {sl21 : Array (Option Value)} {oc21 kV21 dc21 pm21 cd21 ct21 : Value}
    {f22 : Addr} {od22 an22 : Option Addr} {sl22 : Array (Option Value)} {oc22 kV22 dc22 pm22 cd22 ct22 : Value}
    {f23 : Addr} {od23 an23 : Option Addr} {sl23 : Array (Option Value)} {oc23 kV23 dc23 pm23 cd23 ct23 : Value}
    {f24 : Addr} {od24 an24 : Option Addr} {sl24 : Array (Option Value)} {oc24 kV24 dc24 pm24 cd24 ct24 : Value}
    {f25 : Addr} {od25 an25 : Option Addr} {sl25 : Array (Option Value)} {oc25 kV25 dc25 pm25 cd25 ct25 : Value}
    {f26 : Addr} {od26 an26 : Option Addr} {sl26 : Array (Option Value)} {oc26 kV26 dc26 pm26 cd26 ct26 : Value}
    {f27 : Addr} {od27 an27 : Option Addr} {sl27 : Array (Option Value)} {oc27 kV27 dc27 pm27 cd27 ct27 : Value}
    {f28 : Addr} {od28 an28 : Option Addr} {sl28 : Array (Option Value)} {oc28 kV28 dc28 pm28 cd28 ct28 : Value}
    {f29 : Addr} {od29 an29 : Option Addr} {sl29 : Array (Option Value)} {oc29 kV29 dc29 pm29 cd29 ct29 : Value}
    {f30 : Addr} {od30 an30 : Option Addr} {sl30 : Array (Option Value)} {oc30 kV30 dc30 pm30 cd30 ct30 : Value}
    {f31 : Addr} {od31 an31 : Option Addr} {sl31 : Array (Option Value)} {oc31 kV31 dc31 pm31 cd31 ct31 : Value}
    {f32 : Addr} {od32 an32 : Option Addr} {sl32 : Array (Option Value)} {oc32 kV32 dc32 pm32 cd32 ct32 : Value}
    {f33 : Addr} {od33 an33 : Option Addr} {sl33 : Array (Option Value)} {oc33 kV33 dc33 pm33 cd33 ct33 : Value}
    {f34 : Addr} {od34 an34 : Option Addr} {sl34 : Array (Option Value)} {oc34 kV34 dc34 pm34 cd34 ct34 : Value}
    {f35 : Addr} {od35 an35 : Option Addr} {sl35 : Array (Option Value)} {oc35 kV35 dc35 pm35 cd35 ct35 : Value}
    {f36 : Addr} {od36 an36 : Option Addr} {sl36 : Array (Option Value)} {oc36 kV36 dc36 pm36 cd36 ct36 : Value}
    {f37 : Addr} {od37 an37 : Option Addr} {sl37 : Array (Option Value)} {oc37 kV37 dc37 pm37 cd37 ct37 : Value}
    {f38 : Addr} {od38 an38 : Option Addr} {sl38 : Array (Option Value)} {oc38 kV38 dc38 pm38 cd38 ct38 : Value}
    {f39 : Addr} {od39 an39 : Option Addr} {sl39 : Array (Option Value)} {oc39 kV39 dc39 pm39 cd39 ct39 : Value}
    {f40 : Addr} {od40 an40 : Option Addr} {sl40 : Array (Option Value)} {oc40 kV40 dc40 pm40 cd40 ct40 : Value}
    {f41 : Addr} {od41 an41 : Option Addr} {sl41 : Array (Option Value)} {oc41 kV41 dc41 pm41 cd41 ct41 : Value}
    {f42 : Addr} {od42 an42 : Option Addr} {sl42 : Array (Option Value)} {oc42 kV42 dc42 pm42 cd42 ct42 : Value}
    {f43 : Addr} {od43 an43 : Option Addr} {sl43 : Array (Option Value)} {oc43 kV43 dc43 pm43 cd43 ct43 : Value}
    {f44 : Addr} {od44 an44 : Option Addr} {sl44 : Array (Option Value)} {oc44 kV44 dc44 pm44 cd44 ct44 : Value}
    {f45 : Addr} {od45 an45 : Option Addr} {sl45 : Array (Option Value)} {oc45 kV45 dc45 pm45 cd45 ct45 : Value}
    {f46 : Addr} {od46 an46 : Option Addr} {sl46 : Array (Option Value)} {oc46 kV46 dc46 pm46 cd46 ct46 : Value}
    {f47 : Addr} {od47 an47 : Option Addr} {sl47 : Array (Option Value)} {oc47 kV47 dc47 pm47 cd47 ct47 : Value}
    {f48 : Addr} {od48 an48 : Option Addr} {sl48 : Array (Option Value)} {oc48 kV48 dc48 pm48 cd48 ct48 : Value}
    {f49 : Addr} {od49 an49 : Option Addr} {sl49 : Array (Option Value)} {oc49 kV49 dc49 pm49 cd49 ct49 : Value}
    {f50 : Addr} {od50 an50 : Option Addr} {sl50 : Array (Option Value)} {oc50 kV50 dc50 pm50 cd50 ct50 : Value}
    {f51 : Addr} {od51 an51 : Option Addr} {sl51 : Array (Option Value)} {oc51 kV51 dc51 pm51 cd51 ct51 : Value}
    {f52 : Addr} {od52 an52 : Option Addr} {sl52 : Array (Option Value)} {oc52 kV52 dc52 pm52 cd52 ct52 : Value}
    {f53 : Addr} {od53 an53 : Option Addr} {sl53 : Array (Option Value)} {oc53 kV53 dc53 pm53 cd53 ct53 : Value}
    {f54 : Addr} {od54 an54 : Option Addr} {sl54 : Array (Option Value)} {oc54 kV54 dc54 pm54 cd54 ct54 : Value}
    {f55 : Addr} {od55 an55 : Option Addr} {sl55 : Array (Option Value)} {oc55 kV55 dc55 pm55 cd55 ct55 : Value}
    {f56 : Addr} {od56 an56 : Option Addr} {sl56 : Array (Option Value)} {oc56 kV56 dc56 pm56 cd56 ct56 : Value}
    {f57 : Addr} {od57 an57 : Option Addr} {sl57 : Array (Option Value)} {oc57 kV57 dc57 pm57 cd57 ct57 : Value}
    {f58 : Addr} {od58 an58 : Option Addr} {sl58 : Array (Option Value)} {oc58 kV58 dc58 pm58 cd58 ct58 : Value}
    {f59 : Addr} {od59 an59 : Option Addr} {sl59 : Array (Option Value)} {oc59 kV59 dc59 pm59 cd59 ct59 : Value}
    {f60 : Addr} {od60 an60 : Option Addr} {sl60 : Array (Option Value)} {oc60 kV60 dc60 pm60 cd60 ct60 : Value}
    {f61 : Addr} {od61 an61 : Option Addr} {sl61 : Array (Option Value)} {oc61 kV61 dc61 pm61 cd61 ct61 : Value}
    {f62 : Addr} {od62 an62 : Option Addr} {sl62 : Array (Option Value)} {oc62 kV62 dc62 pm62 cd62 ct62 : Value}
    {f63 : Addr} {od63 an63 : Option Addr} {sl63 : Array (Option Value)} {oc63 kV63 dc63 pm63 cd63 ct63 : Value}
    {f64 : Addr} {od64 an64 : Option Addr} {sl64 : Array (Option Value)} {oc64 kV64 dc64 pm64 cd64 ct64 : Value}
    {f65 : Addr} {od65 an65 : Option Addr} {sl65 : Array (Option Value)} {oc65 kV65 dc65 pm65 cd65 ct65 : Value}
    {f66 : Addr} {od66 an66 : Option Addr} {sl66 : Array (Option Value)} {oc66 kV66 dc66 pm66 cd66 ct66 : Value}
    {f67 : Addr} {od67 an67 : Option Addr} {sl67 : Array (Option Value)} {oc67 kV67 dc67 pm67 cd67 ct67 : Value}
    {f68 : Addr} {od68 an68 : Option Addr} {sl68 : Array (Option Value)} {oc68 kV68 dc68 pm68 cd68 ct68 : Value}
    {u0 : Tok}
    {u1 : Tok}
    {u2 : Tok}
    {u3 : Tok}
    {u4 : Tok}
    {q5 : Addr}
    {u6 : Tok}
    {u7 : Tok}
    {q8 : Addr}
    (X : K.In h) (G : h.Ns mainGlobals mg) (hfa : mg "law" = some (.ref fa))
    (a0 : PySem.W.nsIn K mainGlobals "is_whole" = some (some (.ref f0))) (l0 : K.lookup f0 = some ⟨oc0, od0, .func (PySem.W.fnOf "is_whole" "is_whole" (defArgs s_is_whole) (defBody s_is_whole) (defScope s_is_whole) .none kV0 dc0 pm0 an0 cd0 ct0), sl0⟩) (c0 : PySem.W.codeIn K cd0 "is_whole" = true) (k0 : PySem.W.keepIn K (.ref f0) = true)
    (a1 : PySem.W.nsIn K mainGlobals "is_between" = some (some (.ref f1))) (l1 : K.lookup f1 = some ⟨oc1, od1, .func (PySem.W.fnOf "is_between" "is_between" (defArgs s_is_between) (defBody s_is_between) (defScope s_is_between) .none kV1 dc1 pm1 an1 cd1 ct1), sl1⟩) (c1 : PySem.W.codeIn K cd1 "is_between" = true) (k1 : PySem.W.keepIn K (.ref f1) = true)
    (a2 : PySem.W.nsIn K mainGlobals "is_tuple_of" = some (some (.ref f2))) (l2 : K.lookup f2 = some ⟨oc2, od2, .func (PySem.W.fnOf "is_tuple_of" "is_tuple_of" (defArgs s_is_tuple_of) (defBody s_is_tuple_of) (defScope s_is_tuple_of) .none kV2 dc2 pm2 an2 cd2 ct2), sl2⟩) (c2 : PySem.W.codeIn K cd2 "is_tuple_of" = true) (k2 : PySem.W.keepIn K (.ref f2) = true)
    (a3 : PySem.W.nsIn K mainGlobals "is_ratio" = some (some (.ref f3))) (l3 : K.lookup f3 = some ⟨oc3, od3, .func (PySem.W.fnOf "is_ratio" "is_ratio" (defArgs s_is_ratio) (defBody s_is_ratio) (defScope s_is_ratio) .none kV3 dc3 pm3 an3 cd3 ct3), sl3⟩) (c3 : PySem.W.codeIn K cd3 "is_ratio" = true) (k3 : PySem.W.keepIn K (.ref f3) = true)
    (a4 : PySem.W.nsIn K mainGlobals "is_row" = some (some (.ref f4))) (l4 : K.lookup f4 = some ⟨oc4, od4, .func (PySem.W.fnOf "is_row" "is_row" (defArgs s_is_row) (defBody s_is_row) (defScope s_is_row) .none kV4 dc4 pm4 an4 cd4 ct4), sl4⟩) (c4 : PySem.W.codeIn K cd4 "is_row" = true) (k4 : PySem.W.keepIn K (.ref f4) = true)
    (a5 : PySem.W.nsIn K mainGlobals "ratio" = some (some (.ref f5))) (l5 : K.lookup f5 = some ⟨oc5, od5, .func (PySem.W.fnOf "ratio" "ratio" (defArgs s_ratio) (defBody s_ratio) (defScope s_ratio) .none kV5 dc5 pm5 an5 cd5 ct5), sl5⟩) (c5 : PySem.W.codeIn K cd5 "ratio" = true) (k5 : PySem.W.keepIn K (.ref f5) = true)
    (a6 : PySem.W.nsIn K mainGlobals "plus" = some (some (.ref f6))) (l6 : K.lookup f6 = some ⟨oc6, od6, .func (PySem.W.fnOf "plus" "plus" (defArgs s_plus) (defBody s_plus) (defScope s_plus) .none kV6 dc6 pm6 an6 cd6 ct6), sl6⟩) (c6 : PySem.W.codeIn K cd6 "plus" = true) (k6 : PySem.W.keepIn K (.ref f6) = true)
    (a7 : PySem.W.nsIn K mainGlobals "minus" = some (some (.ref f7))) (l7 : K.lookup f7 = some ⟨oc7, od7, .func (PySem.W.fnOf "minus" "minus" (defArgs s_minus) (defBody s_minus) (defScope s_minus) .none kV7 dc7 pm7 an7 cd7 ct7), sl7⟩) (c7 : PySem.W.codeIn K cd7 "minus" = true) (k7 : PySem.W.keepIn K (.ref f7) = true)
    (a8 : PySem.W.nsIn K mainGlobals "times" = some (some (.ref f8))) (l8 : K.lookup f8 = some ⟨oc8, od8, .func (PySem.W.fnOf "times" "times" (defArgs s_times) (defBody s_times) (defScope s_times) .none kV8 dc8 pm8 an8 cd8 ct8), sl8⟩) (c8 : PySem.W.codeIn K cd8 "times" = true) (k8 : PySem.W.keepIn K (.ref f8) = true)
    (a9 : PySem.W.nsIn K mainGlobals "over" = some (some (.ref f9))) (l9 : K.lookup f9 = some ⟨oc9, od9, .func (PySem.W.fnOf "over" "over" (defArgs s_over) (defBody s_over) (defScope s_over) .none kV9 dc9 pm9 an9 cd9 ct9), sl9⟩) (c9 : PySem.W.codeIn K cd9 "over" = true) (k9 : PySem.W.keepIn K (.ref f9) = true)
    (a10 : PySem.W.nsIn K mainGlobals "is_less" = some (some (.ref f10))) (l10 : K.lookup f10 = some ⟨oc10, od10, .func (PySem.W.fnOf "is_less" "is_less" (defArgs s_is_less) (defBody s_is_less) (defScope s_is_less) .none kV10 dc10 pm10 an10 cd10 ct10), sl10⟩) (c10 : PySem.W.codeIn K cd10 "is_less" = true) (k10 : PySem.W.keepIn K (.ref f10) = true)
    (a11 : PySem.W.nsIn K mainGlobals "total" = some (some (.ref f11))) (l11 : K.lookup f11 = some ⟨oc11, od11, .func (PySem.W.fnOf "total" "total" (defArgs s_total) (defBody s_total) (defScope s_total) .none kV11 dc11 pm11 an11 cd11 ct11), sl11⟩) (c11 : PySem.W.codeIn K cd11 "total" = true) (k11 : PySem.W.keepIn K (.ref f11) = true)
    (a12 : PySem.W.nsIn K mainGlobals "less_row" = some (some (.ref f12))) (l12 : K.lookup f12 = some ⟨oc12, od12, .func (PySem.W.fnOf "less_row" "less_row" (defArgs s_less_row) (defBody s_less_row) (defScope s_less_row) .none kV12 dc12 pm12 an12 cd12 ct12), sl12⟩) (c12 : PySem.W.codeIn K cd12 "less_row" = true) (k12 : PySem.W.keepIn K (.ref f12) = true)
    (a13 : PySem.W.nsIn K mainGlobals "answers_of" = some (some (.ref f13))) (l13 : K.lookup f13 = some ⟨oc13, od13, .func (PySem.W.fnOf "answers_of" "answers_of" (defArgs s_answers_of) (defBody s_answers_of) (defScope s_answers_of) .none kV13 dc13 pm13 an13 cd13 ct13), sl13⟩) (c13 : PySem.W.codeIn K cd13 "answers_of" = true) (k13 : PySem.W.keepIn K (.ref f13) = true)
    (a14 : PySem.W.nsIn K mainGlobals "are_chances" = some (some (.ref f14))) (l14 : K.lookup f14 = some ⟨oc14, od14, .func (PySem.W.fnOf "are_chances" "are_chances" (defArgs s_are_chances) (defBody s_are_chances) (defScope s_are_chances) .none kV14 dc14 pm14 an14 cd14 ct14), sl14⟩) (c14 : PySem.W.codeIn K cd14 "are_chances" = true) (k14 : PySem.W.keepIn K (.ref f14) = true)
    (a15 : PySem.W.nsIn K mainGlobals "is_deed" = some (some (.ref f15))) (l15 : K.lookup f15 = some ⟨oc15, od15, .func (PySem.W.fnOf "is_deed" "is_deed" (defArgs s_is_deed) (defBody s_is_deed) (defScope s_is_deed) .none kV15 dc15 pm15 an15 cd15 ct15), sl15⟩) (c15 : PySem.W.codeIn K cd15 "is_deed" = true) (k15 : PySem.W.keepIn K (.ref f15) = true)
    (a16 : PySem.W.nsIn K mainGlobals "is_stand" = some (some (.ref f16))) (l16 : K.lookup f16 = some ⟨oc16, od16, .func (PySem.W.fnOf "is_stand" "is_stand" (defArgs s_is_stand) (defBody s_is_stand) (defScope s_is_stand) .none kV16 dc16 pm16 an16 cd16 ct16), sl16⟩) (c16 : PySem.W.codeIn K cd16 "is_stand" = true) (k16 : PySem.W.keepIn K (.ref f16) = true)
    (a17 : PySem.W.nsIn K mainGlobals "is_share" = some (some (.ref f17))) (l17 : K.lookup f17 = some ⟨oc17, od17, .func (PySem.W.fnOf "is_share" "is_share" (defArgs s_is_share) (defBody s_is_share) (defScope s_is_share) .none kV17 dc17 pm17 an17 cd17 ct17), sl17⟩) (c17 : PySem.W.codeIn K cd17 "is_share" = true) (k17 : PySem.W.keepIn K (.ref f17) = true)
    (a18 : PySem.W.nsIn K mainGlobals "is_house_by" = some (some (.ref f18))) (l18 : K.lookup f18 = some ⟨oc18, od18, .func (PySem.W.fnOf "is_house_by" "is_house_by" (defArgs s_is_house_by) (defBody s_is_house_by) (defScope s_is_house_by) .none kV18 dc18 pm18 an18 cd18 ct18), sl18⟩) (c18 : PySem.W.codeIn K cd18 "is_house_by" = true) (k18 : PySem.W.keepIn K (.ref f18) = true)
    (a19 : PySem.W.nsIn K mainGlobals "check_house" = some (some (.ref f19))) (l19 : K.lookup f19 = some ⟨oc19, od19, .func (PySem.W.fnOf "check_house" "check_house" (defArgs s_check_house) (defBody s_check_house) (defScope s_check_house) .none kV19 dc19 pm19 an19 cd19 ct19), sl19⟩) (c19 : PySem.W.codeIn K cd19 "check_house" = true) (k19 : PySem.W.keepIn K (.ref f19) = true)
    (a20 : PySem.W.nsIn K mainGlobals "wrong_goal" = some (some (.ref f20))) (l20 : K.lookup f20 = some ⟨oc20, od20, .func (PySem.W.fnOf "wrong_goal" "wrong_goal" (defArgs s_wrong_goal) (defBody s_wrong_goal) (defScope s_wrong_goal) .none kV20 dc20 pm20 an20 cd20 ct20), sl20⟩) (c20 : PySem.W.codeIn K cd20 "wrong_goal" = true) (k20 : PySem.W.keepIn K (.ref f20) = true)
    (a21 : PySem.W.nsIn K mainGlobals "led_to" = some (some (.ref f21))) (l21 : K.lookup f21 = some ⟨oc21, od21, .func (PySem.W.fnOf "led_to" "led_to" (defArgs s_led_to) (defBody s_led_to) (defScope s_led_to) .none kV21 dc21 pm21 an21 cd21 ct21), sl21⟩) (c21 : PySem.W.codeIn K cd21 "led_to" = true) (k21 : PySem.W.keepIn K (.ref f21) = true)
    (a22 : PySem.W.nsIn K mainGlobals "mean_behind" = some (some (.ref f22))) (l22 : K.lookup f22 = some ⟨oc22, od22, .func (PySem.W.fnOf "mean_behind" "mean_behind" (defArgs s_mean_behind) (defBody s_mean_behind) (defScope s_mean_behind) .none kV22 dc22 pm22 an22 cd22 ct22), sl22⟩) (c22 : PySem.W.codeIn K cd22 "mean_behind" = true) (k22 : PySem.W.keepIn K (.ref f22) = true)
    (a23 : PySem.W.nsIn K mainGlobals "reaching" = some (some (.ref f23))) (l23 : K.lookup f23 = some ⟨oc23, od23, .func (PySem.W.fnOf "reaching" "reaching" (defArgs s_reaching) (defBody s_reaching) (defScope s_reaching) .none kV23 dc23 pm23 an23 cd23 ct23), sl23⟩) (c23 : PySem.W.codeIn K cd23 "reaching" = true) (k23 : PySem.W.keepIn K (.ref f23) = true)
    (a24 : PySem.W.nsIn K mainGlobals "coming_by" = some (some (.ref f24))) (l24 : K.lookup f24 = some ⟨oc24, od24, .func (PySem.W.fnOf "coming_by" "coming_by" (defArgs s_coming_by) (defBody s_coming_by) (defScope s_coming_by) .none kV24 dc24 pm24 an24 cd24 ct24), sl24⟩) (c24 : PySem.W.codeIn K cd24 "coming_by" = true) (k24 : PySem.W.keepIn K (.ref f24) = true)
    (a25 : PySem.W.nsIn K mainGlobals "better_deed" = some (some (.ref f25))) (l25 : K.lookup f25 = some ⟨oc25, od25, .func (PySem.W.fnOf "better_deed" "better_deed" (defArgs s_better_deed) (defBody s_better_deed) (defScope s_better_deed) .none kV25 dc25 pm25 an25 cd25 ct25), sl25⟩) (c25 : PySem.W.codeIn K cd25 "better_deed" = true) (k25 : PySem.W.keepIn K (.ref f25) = true)
    (a26 : PySem.W.nsIn K mainGlobals "greatest_by" = some (some (.ref f26))) (l26 : K.lookup f26 = some ⟨oc26, od26, .func (PySem.W.fnOf "greatest_by" "greatest_by" (defArgs s_greatest_by) (defBody s_greatest_by) (defScope s_greatest_by) .none kV26 dc26 pm26 an26 cd26 ct26), sl26⟩) (c26 : PySem.W.codeIn K cd26 "greatest_by" = true) (k26 : PySem.W.keepIn K (.ref f26) = true)
    (a27 : PySem.W.nsIn K mainGlobals "range_of" = some (some (.ref f27))) (l27 : K.lookup f27 = some ⟨oc27, od27, .func (PySem.W.fnOf "range_of" "range_of" (defArgs s_range_of) (defBody s_range_of) (defScope s_range_of) .none kV27 dc27 pm27 an27 cd27 ct27), sl27⟩) (c27 : PySem.W.codeIn K cd27 "range_of" = true) (k27 : PySem.W.keepIn K (.ref f27) = true)
    (a28 : PySem.W.nsIn K mainGlobals "staying_deed" = some (some (.ref f28))) (l28 : K.lookup f28 = some ⟨oc28, od28, .func (PySem.W.fnOf "staying_deed" "staying_deed" (defArgs s_staying_deed) (defBody s_staying_deed) (defScope s_staying_deed) .none kV28 dc28 pm28 an28 cd28 ct28), sl28⟩) (c28 : PySem.W.codeIn K cd28 "staying_deed" = true) (k28 : PySem.W.keepIn K (.ref f28) = true)
    (a29 : PySem.W.nsIn K mainGlobals "staying" = some (some (.ref f29))) (l29 : K.lookup f29 = some ⟨oc29, od29, .func (PySem.W.fnOf "staying" "staying" (defArgs s_staying) (defBody s_staying) (defScope s_staying) .none kV29 dc29 pm29 an29 cd29 ct29), sl29⟩) (c29 : PySem.W.codeIn K cd29 "staying" = true) (k29 : PySem.W.keepIn K (.ref f29) = true)
    (a30 : PySem.W.nsIn K mainGlobals "worse_deed" = some (some (.ref f30))) (l30 : K.lookup f30 = some ⟨oc30, od30, .func (PySem.W.fnOf "worse_deed" "worse_deed" (defArgs s_worse_deed) (defBody s_worse_deed) (defScope s_worse_deed) .none kV30 dc30 pm30 an30 cd30 ct30), sl30⟩) (c30 : PySem.W.codeIn K cd30 "worse_deed" = true) (k30 : PySem.W.keepIn K (.ref f30) = true)
    (a31 : PySem.W.nsIn K mainGlobals "least_by" = some (some (.ref f31))) (l31 : K.lookup f31 = some ⟨oc31, od31, .func (PySem.W.fnOf "least_by" "least_by" (defArgs s_least_by) (defBody s_least_by) (defScope s_least_by) .none kV31 dc31 pm31 an31 cd31 ct31), sl31⟩) (c31 : PySem.W.codeIn K cd31 "least_by" = true) (k31 : PySem.W.keepIn K (.ref f31) = true)
    (a32 : PySem.W.nsIn K mainGlobals "meets_all" = some (some (.ref f32))) (l32 : K.lookup f32 = some ⟨oc32, od32, .func (PySem.W.fnOf "meets_all" "meets_all" (defArgs s_meets_all) (defBody s_meets_all) (defScope s_meets_all) .none kV32 dc32 pm32 an32 cd32 ct32), sl32⟩) (c32 : PySem.W.codeIn K cd32 "meets_all" = true) (k32 : PySem.W.keepIn K (.ref f32) = true)
    (a33 : PySem.W.nsIn K mainGlobals "ranks_by" = some (some (.ref f33))) (l33 : K.lookup f33 = some ⟨oc33, od33, .func (PySem.W.fnOf "ranks_by" "ranks_by" (defArgs s_ranks_by) (defBody s_ranks_by) (defScope s_ranks_by) .none kV33 dc33 pm33 an33 cd33 ct33), sl33⟩) (c33 : PySem.W.codeIn K cd33 "ranks_by" = true) (k33 : PySem.W.keepIn K (.ref f33) = true)
    (a34 : PySem.W.nsIn K mainGlobals "check_goals" = some (some (.ref f34))) (l34 : K.lookup f34 = some ⟨oc34, od34, .func (PySem.W.fnOf "check_goals" "check_goals" (defArgs s_check_goals) (defBody s_check_goals) (defScope s_check_goals) .none kV34 dc34 pm34 an34 cd34 ct34), sl34⟩) (c34 : PySem.W.codeIn K cd34 "check_goals" = true) (k34 : PySem.W.keepIn K (.ref f34) = true)
    (a35 : PySem.W.nsIn K mainGlobals "greatest_coming" = some (some (.ref f35))) (l35 : K.lookup f35 = some ⟨oc35, od35, .func (PySem.W.fnOf "greatest_coming" "greatest_coming" (defArgs s_greatest_coming) (defBody s_greatest_coming) (defScope s_greatest_coming) .none kV35 dc35 pm35 an35 cd35 ct35), sl35⟩) (c35 : PySem.W.codeIn K cd35 "greatest_coming" = true) (k35 : PySem.W.keepIn K (.ref f35) = true)
    (a36 : PySem.W.nsIn K mainGlobals "least_coming" = some (some (.ref f36))) (l36 : K.lookup f36 = some ⟨oc36, od36, .func (PySem.W.fnOf "least_coming" "least_coming" (defArgs s_least_coming) (defBody s_least_coming) (defScope s_least_coming) .none kV36 dc36 pm36 an36 cd36 ct36), sl36⟩) (c36 : PySem.W.codeIn K cd36 "least_coming" = true) (k36 : PySem.W.keepIn K (.ref f36) = true)
    (a37 : PySem.W.nsIn K mainGlobals "ranks_of" = some (some (.ref f37))) (l37 : K.lookup f37 = some ⟨oc37, od37, .func (PySem.W.fnOf "ranks_of" "ranks_of" (defArgs s_ranks_of) (defBody s_ranks_of) (defScope s_ranks_of) .none kV37 dc37 pm37 an37 cd37 ct37), sl37⟩) (c37 : PySem.W.codeIn K cd37 "ranks_of" = true) (k37 : PySem.W.keepIn K (.ref f37) = true)
    (a38 : PySem.W.nsIn K mainGlobals "stands_of_one" = some (some (.ref f38))) (l38 : K.lookup f38 = some ⟨oc38, od38, .func (PySem.W.fnOf "stands_of_one" "stands_of_one" (defArgs s_stands_of_one) (defBody s_stands_of_one) (defScope s_stands_of_one) .none kV38 dc38 pm38 an38 cd38 ct38), sl38⟩) (c38 : PySem.W.codeIn K cd38 "stands_of_one" = true) (k38 : PySem.W.keepIn K (.ref f38) = true)
    (a39 : PySem.W.nsIn K mainGlobals "sure_stands" = some (some (.ref f39))) (l39 : K.lookup f39 = some ⟨oc39, od39, .func (PySem.W.fnOf "sure_stands" "sure_stands" (defArgs s_sure_stands) (defBody s_sure_stands) (defScope s_sure_stands) .none kV39 dc39 pm39 an39 cd39 ct39), sl39⟩) (c39 : PySem.W.codeIn K cd39 "sure_stands" = true) (k39 : PySem.W.keepIn K (.ref f39) = true)
    (a40 : PySem.W.nsIn K mainGlobals "certain_stands" = some (some (.ref f40))) (l40 : K.lookup f40 = some ⟨oc40, od40, .func (PySem.W.fnOf "certain_stands" "certain_stands" (defArgs s_certain_stands) (defBody s_certain_stands) (defScope s_certain_stands) .none kV40 dc40 pm40 an40 cd40 ct40), sl40⟩) (c40 : PySem.W.codeIn K cd40 "certain_stands" = true) (k40 : PySem.W.keepIn K (.ref f40) = true)
    (a41 : PySem.W.nsIn K mainGlobals "_law_spring" = some (some (.ref f41))) (l41 : K.lookup f41 = some ⟨oc41, od41, .func (PySem.W.fnOf "_law_spring" "_law_spring" (defArgs s_law_spring) (defBody s_law_spring) (defScope s_law_spring) .none kV41 dc41 pm41 an41 cd41 ct41), sl41⟩) (c41 : PySem.W.codeIn K cd41 "_law_spring" = true) (k41 : PySem.W.keepIn K (.ref f41) = true)
    (a42 : PySem.W.nsIn K mainGlobals "_law_pick" = some (some (.ref f42))) (l42 : K.lookup f42 = some ⟨oc42, od42, .func (PySem.W.fnOf "_law_pick" "_law_pick" (defArgs s_law_pick) (defBody s_law_pick) (defScope s_law_pick) .none kV42 dc42 pm42 an42 cd42 ct42), sl42⟩) (c42 : PySem.W.codeIn K cd42 "_law_pick" = true) (k42 : PySem.W.keepIn K (.ref f42) = true)
    (a43 : PySem.W.nsIn K mainGlobals "_law_any_of" = some (some (.ref f43))) (l43 : K.lookup f43 = some ⟨oc43, od43, .func (PySem.W.fnOf "_law_any_of" "_law_any_of" (defArgs s_law_any_of) (defBody s_law_any_of) (defScope s_law_any_of) .none kV43 dc43 pm43 an43 cd43 ct43), sl43⟩) (c43 : PySem.W.codeIn K cd43 "_law_any_of" = true) (k43 : PySem.W.keepIn K (.ref f43) = true)
    (a44 : PySem.W.nsIn K mainGlobals "_law_frac" = some (some (.ref f44))) (l44 : K.lookup f44 = some ⟨oc44, od44, .func (PySem.W.fnOf "_law_frac" "_law_frac" (defArgs s_law_frac) (defBody s_law_frac) (defScope s_law_frac) .none kV44 dc44 pm44 an44 cd44 ct44), sl44⟩) (c44 : PySem.W.codeIn K cd44 "_law_frac" = true) (k44 : PySem.W.keepIn K (.ref f44) = true)
    (a45 : PySem.W.nsIn K mainGlobals "_law_plus" = some (some (.ref f45))) (l45 : K.lookup f45 = some ⟨oc45, od45, .func (PySem.W.fnOf "_law_plus" "_law_plus" (defArgs s_law_plus) (defBody s_law_plus) (defScope s_law_plus) .none kV45 dc45 pm45 an45 cd45 ct45), sl45⟩) (c45 : PySem.W.codeIn K cd45 "_law_plus" = true) (k45 : PySem.W.keepIn K (.ref f45) = true)
    (a46 : PySem.W.nsIn K mainGlobals "_law_minus" = some (some (.ref f46))) (l46 : K.lookup f46 = some ⟨oc46, od46, .func (PySem.W.fnOf "_law_minus" "_law_minus" (defArgs s_law_minus) (defBody s_law_minus) (defScope s_law_minus) .none kV46 dc46 pm46 an46 cd46 ct46), sl46⟩) (c46 : PySem.W.codeIn K cd46 "_law_minus" = true) (k46 : PySem.W.keepIn K (.ref f46) = true)
    (a47 : PySem.W.nsIn K mainGlobals "_law_times" = some (some (.ref f47))) (l47 : K.lookup f47 = some ⟨oc47, od47, .func (PySem.W.fnOf "_law_times" "_law_times" (defArgs s_law_times) (defBody s_law_times) (defScope s_law_times) .none kV47 dc47 pm47 an47 cd47 ct47), sl47⟩) (c47 : PySem.W.codeIn K cd47 "_law_times" = true) (k47 : PySem.W.keepIn K (.ref f47) = true)
    (a48 : PySem.W.nsIn K mainGlobals "_law_over" = some (some (.ref f48))) (l48 : K.lookup f48 = some ⟨oc48, od48, .func (PySem.W.fnOf "_law_over" "_law_over" (defArgs s_law_over) (defBody s_law_over) (defScope s_law_over) .none kV48 dc48 pm48 an48 cd48 ct48), sl48⟩) (c48 : PySem.W.codeIn K cd48 "_law_over" = true) (k48 : PySem.W.keepIn K (.ref f48) = true)
    (a49 : PySem.W.nsIn K mainGlobals "_law_total" = some (some (.ref f49))) (l49 : K.lookup f49 = some ⟨oc49, od49, .func (PySem.W.fnOf "_law_total" "_law_total" (defArgs s_law_total) (defBody s_law_total) (defScope s_law_total) .none kV49 dc49 pm49 an49 cd49 ct49), sl49⟩) (c49 : PySem.W.codeIn K cd49 "_law_total" = true) (k49 : PySem.W.keepIn K (.ref f49) = true)
    (a50 : PySem.W.nsIn K mainGlobals "_law_part" = some (some (.ref f50))) (l50 : K.lookup f50 = some ⟨oc50, od50, .func (PySem.W.fnOf "_law_part" "_law_part" (defArgs s_law_part) (defBody s_law_part) (defScope s_law_part) .none kV50 dc50 pm50 an50 cd50 ct50), sl50⟩) (c50 : PySem.W.codeIn K cd50 "_law_part" = true) (k50 : PySem.W.keepIn K (.ref f50) = true)
    (a51 : PySem.W.nsIn K mainGlobals "_law_gains" = some (some (.ref f51))) (l51 : K.lookup f51 = some ⟨oc51, od51, .func (PySem.W.fnOf "_law_gains" "_law_gains" (defArgs s_law_gains) (defBody s_law_gains) (defScope s_law_gains) .none kV51 dc51 pm51 an51 cd51 ct51), sl51⟩) (c51 : PySem.W.codeIn K cd51 "_law_gains" = true) (k51 : PySem.W.keepIn K (.ref f51) = true)
    (a52 : PySem.W.nsIn K mainGlobals "_law_parts" = some (some (.ref f52))) (l52 : K.lookup f52 = some ⟨oc52, od52, .func (PySem.W.fnOf "_law_parts" "_law_parts" (defArgs s_law_parts) (defBody s_law_parts) (defScope s_law_parts) .none kV52 dc52 pm52 an52 cd52 ct52), sl52⟩) (c52 : PySem.W.codeIn K cd52 "_law_parts" = true) (k52 : PySem.W.keepIn K (.ref f52) = true)
    (a53 : PySem.W.nsIn K mainGlobals "_law_chances" = some (some (.ref f53))) (l53 : K.lookup f53 = some ⟨oc53, od53, .func (PySem.W.fnOf "_law_chances" "_law_chances" (defArgs s_law_chances) (defBody s_law_chances) (defScope s_law_chances) .none kV53 dc53 pm53 an53 cd53 ct53), sl53⟩) (c53 : PySem.W.codeIn K cd53 "_law_chances" = true) (k53 : PySem.W.keepIn K (.ref f53) = true)
    (a54 : PySem.W.nsIn K mainGlobals "_law_sized" = some (some (.ref f54))) (l54 : K.lookup f54 = some ⟨oc54, od54, .func (PySem.W.fnOf "_law_sized" "_law_sized" (defArgs s_law_sized) (defBody s_law_sized) (defScope s_law_sized) .none kV54 dc54 pm54 an54 cd54 ct54), sl54⟩) (c54 : PySem.W.codeIn K cd54 "_law_sized" = true) (k54 : PySem.W.keepIn K (.ref f54) = true)
    (a55 : PySem.W.nsIn K mainGlobals "_law_world" = some (some (.ref f55))) (l55 : K.lookup f55 = some ⟨oc55, od55, .func (PySem.W.fnOf "_law_world" "_law_world" (defArgs s_law_world) (defBody s_law_world) (defScope s_law_world) .none kV55 dc55 pm55 an55 cd55 ct55), sl55⟩) (c55 : PySem.W.codeIn K cd55 "_law_world" = true) (k55 : PySem.W.keepIn K (.ref f55) = true)
    (a56 : PySem.W.nsIn K mainGlobals "_law_sure" = some (some (.ref f56))) (l56 : K.lookup f56 = some ⟨oc56, od56, .func (PySem.W.fnOf "_law_sure" "_law_sure" (defArgs s_law_sure) (defBody s_law_sure) (defScope s_law_sure) .none kV56 dc56 pm56 an56 cd56 ct56), sl56⟩) (c56 : PySem.W.codeIn K cd56 "_law_sure" = true) (k56 : PySem.W.keepIn K (.ref f56) = true)
    (a57 : PySem.W.nsIn K mainGlobals "_law_ends" = some (some (.ref f57))) (l57 : K.lookup f57 = some ⟨oc57, od57, .func (PySem.W.fnOf "_law_ends" "_law_ends" (defArgs s_law_ends) (defBody s_law_ends) (defScope s_law_ends) .none kV57 dc57 pm57 an57 cd57 ct57), sl57⟩) (c57 : PySem.W.codeIn K cd57 "_law_ends" = true) (k57 : PySem.W.keepIn K (.ref f57) = true)
    (a58 : PySem.W.nsIn K mainGlobals "_law_moves" = some (some (.ref f58))) (l58 : K.lookup f58 = some ⟨oc58, od58, .func (PySem.W.fnOf "_law_moves" "_law_moves" (defArgs s_law_moves) (defBody s_law_moves) (defScope s_law_moves) .none kV58 dc58 pm58 an58 cd58 ct58), sl58⟩) (c58 : PySem.W.codeIn K cd58 "_law_moves" = true) (k58 : PySem.W.keepIn K (.ref f58) = true)
    (a59 : PySem.W.nsIn K mainGlobals "_law_solved" = some (some (.ref f59))) (l59 : K.lookup f59 = some ⟨oc59, od59, .func (PySem.W.fnOf "_law_solved" "_law_solved" (defArgs s_law_solved) (defBody s_law_solved) (defScope s_law_solved) .none kV59 dc59 pm59 an59 cd59 ct59), sl59⟩) (c59 : PySem.W.codeIn K cd59 "_law_solved" = true) (k59 : PySem.W.keepIn K (.ref f59) = true)
    (a60 : PySem.W.nsIn K mainGlobals "_law_choices" = some (some (.ref f60))) (l60 : K.lookup f60 = some ⟨oc60, od60, .func (PySem.W.fnOf "_law_choices" "_law_choices" (defArgs s_law_choices) (defBody s_law_choices) (defScope s_law_choices) .none kV60 dc60 pm60 an60 cd60 ct60), sl60⟩) (c60 : PySem.W.codeIn K cd60 "_law_choices" = true) (k60 : PySem.W.keepIn K (.ref f60) = true)
    (a61 : PySem.W.nsIn K mainGlobals "_law_leads" = some (some (.ref f61))) (l61 : K.lookup f61 = some ⟨oc61, od61, .func (PySem.W.fnOf "_law_leads" "_law_leads" (defArgs s_law_leads) (defBody s_law_leads) (defScope s_law_leads) .none kV61 dc61 pm61 an61 cd61 ct61), sl61⟩) (c61 : PySem.W.codeIn K cd61 "_law_leads" = true) (k61 : PySem.W.keepIn K (.ref f61) = true)
    (a62 : PySem.W.nsIn K mainGlobals "_law_coming" = some (some (.ref f62))) (l62 : K.lookup f62 = some ⟨oc62, od62, .func (PySem.W.fnOf "_law_coming" "_law_coming" (defArgs s_law_coming) (defBody s_law_coming) (defScope s_law_coming) .none kV62 dc62 pm62 an62 cd62 ct62), sl62⟩) (c62 : PySem.W.codeIn K cd62 "_law_coming" = true) (k62 : PySem.W.keepIn K (.ref f62) = true)
    (a63 : PySem.W.nsIn K mainGlobals "_law_has_stay" = some (some (.ref f63))) (l63 : K.lookup f63 = some ⟨oc63, od63, .func (PySem.W.fnOf "_law_has_stay" "_law_has_stay" (defArgs s_law_has_stay) (defBody s_law_has_stay) (defScope s_law_has_stay) .none kV63 dc63 pm63 an63 cd63 ct63), sl63⟩) (c63 : PySem.W.codeIn K cd63 "_law_has_stay" = true) (k63 : PySem.W.keepIn K (.ref f63) = true)
    (a64 : PySem.W.nsIn K mainGlobals "_law_never" = some (some (.ref f64))) (l64 : K.lookup f64 = some ⟨oc64, od64, .func (PySem.W.fnOf "_law_never" "_law_never" (defArgs s_law_never) (defBody s_law_never) (defScope s_law_never) .none kV64 dc64 pm64 an64 cd64 ct64), sl64⟩) (c64 : PySem.W.codeIn K cd64 "_law_never" = true) (k64 : PySem.W.keepIn K (.ref f64) = true)
    (a65 : PySem.W.nsIn K mainGlobals "_law_ranks" = some (some (.ref f65))) (l65 : K.lookup f65 = some ⟨oc65, od65, .func (PySem.W.fnOf "_law_ranks" "_law_ranks" (defArgs s_law_ranks) (defBody s_law_ranks) (defScope s_law_ranks) .none kV65 dc65 pm65 an65 cd65 ct65), sl65⟩) (c65 : PySem.W.codeIn K cd65 "_law_ranks" = true) (k65 : PySem.W.keepIn K (.ref f65) = true)
    (a66 : PySem.W.nsIn K mainGlobals "_law_ones" = some (some (.ref f66))) (l66 : K.lookup f66 = some ⟨oc66, od66, .func (PySem.W.fnOf "_law_ones" "_law_ones" (defArgs s_law_ones) (defBody s_law_ones) (defScope s_law_ones) .none kV66 dc66 pm66 an66 cd66 ct66), sl66⟩) (c66 : PySem.W.codeIn K cd66 "_law_ones" = true) (k66 : PySem.W.keepIn K (.ref f66) = true)
    (a67 : PySem.W.nsIn K mainGlobals "_law_right" = some (some (.ref f67))) (l67 : K.lookup f67 = some ⟨oc67, od67, .func (PySem.W.fnOf "_law_right" "_law_right" (defArgs s_law_right) (defBody s_law_right) (defScope s_law_right) .none kV67 dc67 pm67 an67 cd67 ct67), sl67⟩) (c67 : PySem.W.codeIn K cd67 "_law_right" = true) (k67 : PySem.W.keepIn K (.ref f67) = true)
    (a68 : PySem.W.nsIn K mainGlobals "law" = some (some (.ref f68))) (l68 : K.lookup f68 = some ⟨oc68, od68, .func (PySem.W.fnOf "law" "law" (defArgs s_law) (defBody s_law) (defScope s_law) .none kV68 dc68 pm68 an68 cd68 ct68), sl68⟩) (c68 : PySem.W.codeIn K cd68 "law" = true) (k68 : PySem.W.keepIn K (.ref f68) = true)
    (z_abs : PySem.W.nsIn K mainGlobals "abs" = some none)
    (z_all : PySem.W.nsIn K mainGlobals "all" = some none)
    (z_any : PySem.W.nsIn K mainGlobals "any" = some none)
    (z_bool : PySem.W.nsIn K mainGlobals "bool" = some none)
    (z_divmod : PySem.W.nsIn K mainGlobals "divmod" = some none)
    (z_enumerate : PySem.W.nsIn K mainGlobals "enumerate" = some none)
    (z_gcd : PySem.W.nsIn K mainGlobals "gcd" = some (some (.builtin "math.gcd")))
    (z_int : PySem.W.nsIn K mainGlobals "int" = some none)
    (z_isinstance : PySem.W.nsIn K mainGlobals "isinstance" = some none)
    (z_len : PySem.W.nsIn K mainGlobals "len" = some none)
    (z_list : PySem.W.nsIn K mainGlobals "list" = some none)
    (z_max : PySem.W.nsIn K mainGlobals "max" = some none)
    (z_min : PySem.W.nsIn K mainGlobals "min" = some none)
    (z_range : PySem.W.nsIn K mainGlobals "range" = some none)
    (z_repr : PySem.W.nsIn K mainGlobals "repr" = some none)
    (z_sorted : PySem.W.nsIn K mainGlobals "sorted" = some none)
    (z_sum : PySem.W.nsIn K mainGlobals "sum" = some none)
    (z_tuple : PySem.W.nsIn K mainGlobals "tuple" = some none)
    (z_zip : PySem.W.nsIn K mainGlobals "zip" = some none)
    (g_MOST_DEEDS : PySem.W.nsIn K mainGlobals "MOST_DEEDS" = some (some (.int (4) u0)))
    (g_MOST_PAYS : PySem.W.nsIn K mainGlobals "MOST_PAYS" = some (some (.int (4) u1)))
    (g_MOST_STANDS : PySem.W.nsIn K mainGlobals "MOST_STANDS" = some (some (.int (8) u2)))
    (t5 : K.lookup q5 = some { cls := .type "tuple", data := .seq #[.int (1) u3, .int (1) u4] })
    (g_ONE : PySem.W.nsIn K mainGlobals "ONE" = some (some (.ref q5)))
    (t8 : K.lookup q8 = some { cls := .type "tuple", data := .seq #[.int (0) u6, .int (1) u7] })
    (g_ZERO : PySem.W.nsIn K mainGlobals "ZERO" = some (some (.ref q8))) :
    ∃ fd : FuncData, (∀ (s : Shared) (v : Value), BindsTo s fd ⟨[v], []⟩ [("_law_script", v)]) ∧ ∀ base : Heap, K.In base → base.Ns mainGlobals mg → FnG P w K mg base 12 fa fd ["_law_script"] (spOf K 1 f_law) := by
  have e := hfa.symm.trans (PySem.W.mg_of X G a68)
  have e2 : f68 = fa := by cases e; rfl
  subst e2
  have T : Txt K mg (fun i => ([f0, f1, f2, f3, f4, f5, f6, f7, f8, f9, f10, f11, f12, f13, f14, f15, f16, f17, f18, f19, f20, f21, f22, f23, f24, f25, f26, f27, f28, f29, f30, f31, f32, f33, f34, f35, f36, f37, f38, f39, f40, f41, f42, f43, f44, f45, f46, f47, f48, f49, f50, f51, f52, f53, f54, f55, f56, f57, f58, f59, f60, f61, f62, f63, f64, f65, f66, f67, f68] : List Addr).getD i f68) (fun i => ([PySem.W.fnOf "is_whole" "is_whole" (defArgs s_is_whole) (defBody s_is_whole) (defScope s_is_whole) .none kV0 dc0 pm0 an0 cd0 ct0,
      PySem.W.fnOf "is_between" "is_between" (defArgs s_is_between) (defBody s_is_between) (defScope s_is_between) .none kV1 dc1 pm1 an1 cd1 ct1,
      PySem.W.fnOf "is_tuple_of" "is_tuple_of" (defArgs s_is_tuple_of) (defBody s_is_tuple_of) (defScope s_is_tuple_of) .none kV2 dc2 pm2 an2 cd2 ct2,
      PySem.W.fnOf "is_ratio" "is_ratio" (defArgs s_is_ratio) (defBody s_is_ratio) (defScope s_is_ratio) .none kV3 dc3 pm3 an3 cd3 ct3,
      PySem.W.fnOf "is_row" "is_row" (defArgs s_is_row) (defBody s_is_row) (defScope s_is_row) .none kV4 dc4 pm4 an4 cd4 ct4,
      PySem.W.fnOf "ratio" "ratio" (defArgs s_ratio) (defBody s_ratio) (defScope s_ratio) .none kV5 dc5 pm5 an5 cd5 ct5,
      PySem.W.fnOf "plus" "plus" (defArgs s_plus) (defBody s_plus) (defScope s_plus) .none kV6 dc6 pm6 an6 cd6 ct6,
      PySem.W.fnOf "minus" "minus" (defArgs s_minus) (defBody s_minus) (defScope s_minus) .none kV7 dc7 pm7 an7 cd7 ct7,
      PySem.W.fnOf "times" "times" (defArgs s_times) (defBody s_times) (defScope s_times) .none kV8 dc8 pm8 an8 cd8 ct8,
      PySem.W.fnOf "over" "over" (defArgs s_over) (defBody s_over) (defScope s_over) .none kV9 dc9 pm9 an9 cd9 ct9,
      PySem.W.fnOf "is_less" "is_less" (defArgs s_is_less) (defBody s_is_less) (defScope s_is_less) .none kV10 dc10 pm10 an10 cd10 ct10,
      PySem.W.fnOf "total" "total" (defArgs s_total) (defBody s_total) (defScope s_total) .none kV11 dc11 pm11 an11 cd11 ct11,
      PySem.W.fnOf "less_row" "less_row" (defArgs s_less_row) (defBody s_less_row) (defScope s_less_row) .none kV12 dc12 pm12 an12 cd12 ct12,
      PySem.W.fnOf "answers_of" "answers_of" (defArgs s_answers_of) (defBody s_answers_of) (defScope s_answers_of) .none kV13 dc13 pm13 an13 cd13 ct13,
      PySem.W.fnOf "are_chances" "are_chances" (defArgs s_are_chances) (defBody s_are_chances) (defScope s_are_chances) .none kV14 dc14 pm14 an14 cd14 ct14,
      PySem.W.fnOf "is_deed" "is_deed" (defArgs s_is_deed) (defBody s_is_deed) (defScope s_is_deed) .none kV15 dc15 pm15 an15 cd15 ct15,
      PySem.W.fnOf "is_stand" "is_stand" (defArgs s_is_stand) (defBody s_is_stand) (defScope s_is_stand) .none kV16 dc16 pm16 an16 cd16 ct16,
      PySem.W.fnOf "is_share" "is_share" (defArgs s_is_share) (defBody s_is_share) (defScope s_is_share) .none kV17 dc17 pm17 an17 cd17 ct17,
      PySem.W.fnOf "is_house_by" "is_house_by" (defArgs s_is_house_by) (defBody s_is_house_by) (defScope s_is_house_by) .none kV18 dc18 pm18 an18 cd18 ct18,
      PySem.W.fnOf "check_house" "check_house" (defArgs s_check_house) (defBody s_check_house) (defScope s_check_house) .none kV19 dc19 pm19 an19 cd19 ct19,
      PySem.W.fnOf "wrong_goal" "wrong_goal" (defArgs s_wrong_goal) (defBody s_wrong_goal) (defScope s_wrong_goal) .none kV20 dc20 pm20 an20 cd20 ct20,
      PySem.W.fnOf "led_to" "led_to" (defArgs s_led_to) (defBody s_led_to) (defScope s_led_to) .none kV21 dc21 pm21 an21 cd21 ct21,
      PySem.W.fnOf "mean_behind" "mean_behind" (defArgs s_mean_behind) (defBody s_mean_behind) (defScope s_mean_behind) .none kV22 dc22 pm22 an22 cd22 ct22,
      PySem.W.fnOf "reaching" "reaching" (defArgs s_reaching) (defBody s_reaching) (defScope s_reaching) .none kV23 dc23 pm23 an23 cd23 ct23,
      PySem.W.fnOf "coming_by" "coming_by" (defArgs s_coming_by) (defBody s_coming_by) (defScope s_coming_by) .none kV24 dc24 pm24 an24 cd24 ct24,
      PySem.W.fnOf "better_deed" "better_deed" (defArgs s_better_deed) (defBody s_better_deed) (defScope s_better_deed) .none kV25 dc25 pm25 an25 cd25 ct25,
      PySem.W.fnOf "greatest_by" "greatest_by" (defArgs s_greatest_by) (defBody s_greatest_by) (defScope s_greatest_by) .none kV26 dc26 pm26 an26 cd26 ct26,
      PySem.W.fnOf "range_of" "range_of" (defArgs s_range_of) (defBody s_range_of) (defScope s_range_of) .none kV27 dc27 pm27 an27 cd27 ct27,
      PySem.W.fnOf "staying_deed" "staying_deed" (defArgs s_staying_deed) (defBody s_staying_deed) (defScope s_staying_deed) .none kV28 dc28 pm28 an28 cd28 ct28,
      PySem.W.fnOf "staying" "staying" (defArgs s_staying) (defBody s_staying) (defScope s_staying) .none kV29 dc29 pm29 an29 cd29 ct29,
      PySem.W.fnOf "worse_deed" "worse_deed" (defArgs s_worse_deed) (defBody s_worse_deed) (defScope s_worse_deed) .none kV30 dc30 pm30 an30 cd30 ct30,
      PySem.W.fnOf "least_by" "least_by" (defArgs s_least_by) (defBody s_least_by) (defScope s_least_by) .none kV31 dc31 pm31 an31 cd31 ct31,
      PySem.W.fnOf "meets_all" "meets_all" (defArgs s_meets_all) (defBody s_meets_all) (defScope s_meets_all) .none kV32 dc32 pm32 an32 cd32 ct32,
      PySem.W.fnOf "ranks_by" "ranks_by" (defArgs s_ranks_by) (defBody s_ranks_by) (defScope s_ranks_by) .none kV33 dc33 pm33 an33 cd33 ct33,
      PySem.W.fnOf "check_goals" "check_goals" (defArgs s_check_goals) (defBody s_check_goals) (defScope s_check_goals) .none kV34 dc34 pm34 an34 cd34 ct34,
      PySem.W.fnOf "greatest_coming" "greatest_coming" (defArgs s_greatest_coming) (defBody s_greatest_coming) (defScope s_greatest_coming) .none kV35 dc35 pm35 an35 cd35 ct35,
      PySem.W.fnOf "least_coming" "least_coming" (defArgs s_least_coming) (defBody s_least_coming) (defScope s_least_coming) .none kV36 dc36 pm36 an36 cd36 ct36,
      PySem.W.fnOf "ranks_of" "ranks_of" (defArgs s_ranks_of) (defBody s_ranks_of) (defScope s_ranks_of) .none kV37 dc37 pm37 an37 cd37 ct37,
      PySem.W.fnOf "stands_of_one" "stands_of_one" (defArgs s_stands_of_one) (defBody s_stands_of_one) (defScope s_stands_of_one) .none kV38 dc38 pm38 an38 cd38 ct38,
      PySem.W.fnOf "sure_stands" "sure_stands" (defArgs s_sure_stands) (defBody s_sure_stands) (defScope s_sure_stands) .none kV39 dc39 pm39 an39 cd39 ct39,
      PySem.W.fnOf "certain_stands" "certain_stands" (defArgs s_certain_stands) (defBody s_certain_stands) (defScope s_certain_stands) .none kV40 dc40 pm40 an40 cd40 ct40,
      PySem.W.fnOf "_law_spring" "_law_spring" (defArgs s_law_spring) (defBody s_law_spring) (defScope s_law_spring) .none kV41 dc41 pm41 an41 cd41 ct41,
      PySem.W.fnOf "_law_pick" "_law_pick" (defArgs s_law_pick) (defBody s_law_pick) (defScope s_law_pick) .none kV42 dc42 pm42 an42 cd42 ct42,
      PySem.W.fnOf "_law_any_of" "_law_any_of" (defArgs s_law_any_of) (defBody s_law_any_of) (defScope s_law_any_of) .none kV43 dc43 pm43 an43 cd43 ct43,
      PySem.W.fnOf "_law_frac" "_law_frac" (defArgs s_law_frac) (defBody s_law_frac) (defScope s_law_frac) .none kV44 dc44 pm44 an44 cd44 ct44,
      PySem.W.fnOf "_law_plus" "_law_plus" (defArgs s_law_plus) (defBody s_law_plus) (defScope s_law_plus) .none kV45 dc45 pm45 an45 cd45 ct45,
      PySem.W.fnOf "_law_minus" "_law_minus" (defArgs s_law_minus) (defBody s_law_minus) (defScope s_law_minus) .none kV46 dc46 pm46 an46 cd46 ct46,
      PySem.W.fnOf "_law_times" "_law_times" (defArgs s_law_times) (defBody s_law_times) (defScope s_law_times) .none kV47 dc47 pm47 an47 cd47 ct47,
      PySem.W.fnOf "_law_over" "_law_over" (defArgs s_law_over) (defBody s_law_over) (defScope s_law_over) .none kV48 dc48 pm48 an48 cd48 ct48,
      PySem.W.fnOf "_law_total" "_law_total" (defArgs s_law_total) (defBody s_law_total) (defScope s_law_total) .none kV49 dc49 pm49 an49 cd49 ct49,
      PySem.W.fnOf "_law_part" "_law_part" (defArgs s_law_part) (defBody s_law_part) (defScope s_law_part) .none kV50 dc50 pm50 an50 cd50 ct50,
      PySem.W.fnOf "_law_gains" "_law_gains" (defArgs s_law_gains) (defBody s_law_gains) (defScope s_law_gains) .none kV51 dc51 pm51 an51 cd51 ct51,
      PySem.W.fnOf "_law_parts" "_law_parts" (defArgs s_law_parts) (defBody s_law_parts) (defScope s_law_parts) .none kV52 dc52 pm52 an52 cd52 ct52,
      PySem.W.fnOf "_law_chances" "_law_chances" (defArgs s_law_chances) (defBody s_law_chances) (defScope s_law_chances) .none kV53 dc53 pm53 an53 cd53 ct53,
      PySem.W.fnOf "_law_sized" "_law_sized" (defArgs s_law_sized) (defBody s_law_sized) (defScope s_law_sized) .none kV54 dc54 pm54 an54 cd54 ct54,
      PySem.W.fnOf "_law_world" "_law_world" (defArgs s_law_world) (defBody s_law_world) (defScope s_law_world) .none kV55 dc55 pm55 an55 cd55 ct55,
      PySem.W.fnOf "_law_sure" "_law_sure" (defArgs s_law_sure) (defBody s_law_sure) (defScope s_law_sure) .none kV56 dc56 pm56 an56 cd56 ct56,
      PySem.W.fnOf "_law_ends" "_law_ends" (defArgs s_law_ends) (defBody s_law_ends) (defScope s_law_ends) .none kV57 dc57 pm57 an57 cd57 ct57,
      PySem.W.fnOf "_law_moves" "_law_moves" (defArgs s_law_moves) (defBody s_law_moves) (defScope s_law_moves) .none kV58 dc58 pm58 an58 cd58 ct58,
      PySem.W.fnOf "_law_solved" "_law_solved" (defArgs s_law_solved) (defBody s_law_solved) (defScope s_law_solved) .none kV59 dc59 pm59 an59 cd59 ct59,
      PySem.W.fnOf "_law_choices" "_law_choices" (defArgs s_law_choices) (defBody s_law_choices) (defScope s_law_choices) .none kV60 dc60 pm60 an60 cd60 ct60,
      PySem.W.fnOf "_law_leads" "_law_leads" (defArgs s_law_leads) (defBody s_law_leads) (defScope s_law_leads) .none kV61 dc61 pm61 an61 cd61 ct61,
      PySem.W.fnOf "_law_coming" "_law_coming" (defArgs s_law_coming) (defBody s_law_coming) (defScope s_law_coming) .none kV62 dc62 pm62 an62 cd62 ct62,
      PySem.W.fnOf "_law_has_stay" "_law_has_stay" (defArgs s_law_has_stay) (defBody s_law_has_stay) (defScope s_law_has_stay) .none kV63 dc63 pm63 an63 cd63 ct63,
      PySem.W.fnOf "_law_never" "_law_never" (defArgs s_law_never) (defBody s_law_never) (defScope s_law_never) .none kV64 dc64 pm64 an64 cd64 ct64,
      PySem.W.fnOf "_law_ranks" "_law_ranks" (defArgs s_law_ranks) (defBody s_law_ranks) (defScope s_law_ranks) .none kV65 dc65 pm65 an65 cd65 ct65,
      PySem.W.fnOf "_law_ones" "_law_ones" (defArgs s_law_ones) (defBody s_law_ones) (defScope s_law_ones) .none kV66 dc66 pm66 an66 cd66 ct66,
      PySem.W.fnOf "_law_right" "_law_right" (defArgs s_law_right) (defBody s_law_right) (defScope s_law_right) .none kV67 dc67 pm67 an67 cd67 ct67,
      PySem.W.fnOf "law" "law" (defArgs s_law) (defBody s_law) (defScope s_law) .none kV68 dc68 pm68 an68 cd68 ct68] : List FuncData).getD i (PySem.W.fnOf "law" "law" (defArgs s_law) (defBody s_law) (defScope s_law) .none kV68 dc68 pm68 an68 cd68 ct68)) :=
    { d_is_whole := fun_mk (st := s_is_whole) l0 c0 k0,
      m_is_whole := PySem.W.mg_of X G a0,
      d_is_between := fun_mk (st := s_is_between) l1 c1 k1,
      m_is_between := PySem.W.mg_of X G a1,
      d_is_tuple_of := fun_mk (st := s_is_tuple_of) l2 c2 k2,
      m_is_tuple_of := PySem.W.mg_of X G a2,
      d_is_ratio := fun_mk (st := s_is_ratio) l3 c3 k3,
      m_is_ratio := PySem.W.mg_of X G a3,
      d_is_row := fun_mk (st := s_is_row) l4 c4 k4,
      m_is_row := PySem.W.mg_of X G a4,
      d_ratio := fun_mk (st := s_ratio) l5 c5 k5,
      m_ratio := PySem.W.mg_of X G a5,
      d_plus := fun_mk (st := s_plus) l6 c6 k6,
      m_plus := PySem.W.mg_of X G a6,
      d_minus := fun_mk (st := s_minus) l7 c7 k7,
      m_minus := PySem.W.mg_of X G a7,
      d_times := fun_mk (st := s_times) l8 c8 k8,
      m_times := PySem.W.mg_of X G a8,
      d_over := fun_mk (st := s_over) l9 c9 k9,
      m_over := PySem.W.mg_of X G a9,
      d_is_less := fun_mk (st := s_is_less) l10 c10 k10,
      m_is_less := PySem.W.mg_of X G a10,
      d_total := fun_mk (st := s_total) l11 c11 k11,
      m_total := PySem.W.mg_of X G a11,
      d_less_row := fun_mk (st := s_less_row) l12 c12 k12,
      m_less_row := PySem.W.mg_of X G a12,
      d_answers_of := fun_mk (st := s_answers_of) l13 c13 k13,
      m_answers_of := PySem.W.mg_of X G a13,
      d_are_chances := fun_mk (st := s_are_chances) l14 c14 k14,
      m_are_chances := PySem.W.mg_of X G a14,
      d_is_deed := fun_mk (st := s_is_deed) l15 c15 k15,
      m_is_deed := PySem.W.mg_of X G a15,
      d_is_stand := fun_mk (st := s_is_stand) l16 c16 k16,
      m_is_stand := PySem.W.mg_of X G a16,
      d_is_share := fun_mk (st := s_is_share) l17 c17 k17,
      m_is_share := PySem.W.mg_of X G a17,
      d_is_house_by := fun_mk (st := s_is_house_by) l18 c18 k18,
      m_is_house_by := PySem.W.mg_of X G a18,
      d_check_house := fun_mk (st := s_check_house) l19 c19 k19,
      m_check_house := PySem.W.mg_of X G a19,
      d_wrong_goal := fun_mk (st := s_wrong_goal) l20 c20 k20,
      m_wrong_goal := PySem.W.mg_of X G a20,
      d_led_to := fun_mk (st := s_led_to) l21 c21 k21,
      m_led_to := PySem.W.mg_of X G a21,
      d_mean_behind := fun_mk (st := s_mean_behind) l22 c22 k22,
      m_mean_behind := PySem.W.mg_of X G a22,
      d_reaching := fun_mk (st := s_reaching) l23 c23 k23,
      m_reaching := PySem.W.mg_of X G a23,
      d_coming_by := fun_mk (st := s_coming_by) l24 c24 k24,
      m_coming_by := PySem.W.mg_of X G a24,
      d_better_deed := fun_mk (st := s_better_deed) l25 c25 k25,
      m_better_deed := PySem.W.mg_of X G a25,
      d_greatest_by := fun_mk (st := s_greatest_by) l26 c26 k26,
      m_greatest_by := PySem.W.mg_of X G a26,
      d_range_of := fun_mk (st := s_range_of) l27 c27 k27,
      m_range_of := PySem.W.mg_of X G a27,
      d_staying_deed := fun_mk (st := s_staying_deed) l28 c28 k28,
      m_staying_deed := PySem.W.mg_of X G a28,
      d_staying := fun_mk (st := s_staying) l29 c29 k29,
      m_staying := PySem.W.mg_of X G a29,
      d_worse_deed := fun_mk (st := s_worse_deed) l30 c30 k30,
      m_worse_deed := PySem.W.mg_of X G a30,
      d_least_by := fun_mk (st := s_least_by) l31 c31 k31,
      m_least_by := PySem.W.mg_of X G a31,
      d_meets_all := fun_mk (st := s_meets_all) l32 c32 k32,
      m_meets_all := PySem.W.mg_of X G a32,
      d_ranks_by := fun_mk (st := s_ranks_by) l33 c33 k33,
      m_ranks_by := PySem.W.mg_of X G a33,
      d_check_goals := fun_mk (st := s_check_goals) l34 c34 k34,
      m_check_goals := PySem.W.mg_of X G a34,
      d_greatest_coming := fun_mk (st := s_greatest_coming) l35 c35 k35,
      m_greatest_coming := PySem.W.mg_of X G a35,
      d_least_coming := fun_mk (st := s_least_coming) l36 c36 k36,
      m_least_coming := PySem.W.mg_of X G a36,
      d_ranks_of := fun_mk (st := s_ranks_of) l37 c37 k37,
      m_ranks_of := PySem.W.mg_of X G a37,
      d_stands_of_one := fun_mk (st := s_stands_of_one) l38 c38 k38,
      m_stands_of_one := PySem.W.mg_of X G a38,
      d_sure_stands := fun_mk (st := s_sure_stands) l39 c39 k39,
      m_sure_stands := PySem.W.mg_of X G a39,
      d_certain_stands := fun_mk (st := s_certain_stands) l40 c40 k40,
      m_certain_stands := PySem.W.mg_of X G a40,
      d_law_spring := fun_mk (st := s_law_spring) l41 c41 k41,
      m_law_spring := PySem.W.mg_of X G a41,
      d_law_pick := fun_mk (st := s_law_pick) l42 c42 k42,
      m_law_pick := PySem.W.mg_of X G a42,
      d_law_any_of := fun_mk (st := s_law_any_of) l43 c43 k43,
      m_law_any_of := PySem.W.mg_of X G a43,
      d_law_frac := fun_mk (st := s_law_frac) l44 c44 k44,
      m_law_frac := PySem.W.mg_of X G a44,
      d_law_plus := fun_mk (st := s_law_plus) l45 c45 k45,
      m_law_plus := PySem.W.mg_of X G a45,
      d_law_minus := fun_mk (st := s_law_minus) l46 c46 k46,
      m_law_minus := PySem.W.mg_of X G a46,
      d_law_times := fun_mk (st := s_law_times) l47 c47 k47,
      m_law_times := PySem.W.mg_of X G a47,
      d_law_over := fun_mk (st := s_law_over) l48 c48 k48,
      m_law_over := PySem.W.mg_of X G a48,
      d_law_total := fun_mk (st := s_law_total) l49 c49 k49,
      m_law_total := PySem.W.mg_of X G a49,
      d_law_part := fun_mk (st := s_law_part) l50 c50 k50,
      m_law_part := PySem.W.mg_of X G a50,
      d_law_gains := fun_mk (st := s_law_gains) l51 c51 k51,
      m_law_gains := PySem.W.mg_of X G a51,
      d_law_parts := fun_mk (st := s_law_parts) l52 c52 k52,
      m_law_parts := PySem.W.mg_of X G a52,
      d_law_chances := fun_mk (st := s_law_chances) l53 c53 k53,
      m_law_chances := PySem.W.mg_of X G a53,
      d_law_sized := fun_mk (st := s_law_sized) l54 c54 k54,
      m_law_sized := PySem.W.mg_of X G a54,
      d_law_world := fun_mk (st := s_law_world) l55 c55 k55,
      m_law_world := PySem.W.mg_of X G a55,
      d_law_sure := fun_mk (st := s_law_sure) l56 c56 k56,
      m_law_sure := PySem.W.mg_of X G a56,
      d_law_ends := fun_mk (st := s_law_ends) l57 c57 k57,
      m_law_ends := PySem.W.mg_of X G a57,
      d_law_moves := fun_mk (st := s_law_moves) l58 c58 k58,
      m_law_moves := PySem.W.mg_of X G a58,
      d_law_solved := fun_mk (st := s_law_solved) l59 c59 k59,
      m_law_solved := PySem.W.mg_of X G a59,
      d_law_choices := fun_mk (st := s_law_choices) l60 c60 k60,
      m_law_choices := PySem.W.mg_of X G a60,
      d_law_leads := fun_mk (st := s_law_leads) l61 c61 k61,
      m_law_leads := PySem.W.mg_of X G a61,
      d_law_coming := fun_mk (st := s_law_coming) l62 c62 k62,
      m_law_coming := PySem.W.mg_of X G a62,
      d_law_has_stay := fun_mk (st := s_law_has_stay) l63 c63 k63,
      m_law_has_stay := PySem.W.mg_of X G a63,
      d_law_never := fun_mk (st := s_law_never) l64 c64 k64,
      m_law_never := PySem.W.mg_of X G a64,
      d_law_ranks := fun_mk (st := s_law_ranks) l65 c65 k65,
      m_law_ranks := PySem.W.mg_of X G a65,
      d_law_ones := fun_mk (st := s_law_ones) l66 c66 k66,
      m_law_ones := PySem.W.mg_of X G a66,
      d_law_right := fun_mk (st := s_law_right) l67 c67 k67,
      m_law_right := PySem.W.mg_of X G a67,
      d_law := fun_mk (st := s_law) l68 c68 k68,
      m_law := PySem.W.mg_of X G a68,
      b_abs := PySem.W.mg_none_of X G z_abs,
      b_all := PySem.W.mg_none_of X G z_all,
      b_any := PySem.W.mg_none_of X G z_any,
      b_bool := PySem.W.mg_none_of X G z_bool,
      b_divmod := PySem.W.mg_none_of X G z_divmod,
      b_enumerate := PySem.W.mg_none_of X G z_enumerate,
      b_gcd := PySem.W.mg_of X G z_gcd,
      b_int := PySem.W.mg_none_of X G z_int,
      b_isinstance := PySem.W.mg_none_of X G z_isinstance,
      b_len := PySem.W.mg_none_of X G z_len,
      b_list := PySem.W.mg_none_of X G z_list,
      b_max := PySem.W.mg_none_of X G z_max,
      b_min := PySem.W.mg_none_of X G z_min,
      b_range := PySem.W.mg_none_of X G z_range,
      b_repr := PySem.W.mg_none_of X G z_repr,
      b_sorted := PySem.W.mg_none_of X G z_sorted,
      b_sum := PySem.W.mg_none_of X G z_sum,
      b_tuple := PySem.W.mg_none_of X G z_tuple,
      b_zip := PySem.W.mg_none_of X G z_zip,
      g_MOST_DEEDS := ⟨⟨.int (4), _, PySem.W.mg_of X G g_MOST_DEEDS, ⟨_, rfl⟩, fun fz H => (.int _)⟩⟩,
      g_MOST_PAYS := ⟨⟨.int (4), _, PySem.W.mg_of X G g_MOST_PAYS, ⟨_, rfl⟩, fun fz H => (.int _)⟩⟩,
      g_MOST_STANDS := ⟨⟨.int (8), _, PySem.W.mg_of X G g_MOST_STANDS, ⟨_, rfl⟩, fun fz H => (.int _)⟩⟩,
      g_ONE := ⟨⟨.ref q5, _, PySem.W.mg_of X G g_ONE, rfl, fun fz H => (.tup (.inr ⟨_, #[.int (1) u3, .int (1) u4], _, t5, rfl, rfl, rfl, (show 2 ≤ sizeLine by decide), (show Vals [.int (1), .int (1)] _ from (.cons ⟨_, rfl⟩ (.cons ⟨_, rfl⟩ .nil)))⟩) (.cons (.int _) (.cons (.int _) .nil)))⟩⟩,
      g_ZERO := ⟨⟨.ref q8, _, PySem.W.mg_of X G g_ZERO, rfl, fun fz H => (.tup (.inr ⟨_, #[.int (0) u6, .int (1) u7], _, t8, rfl, rfl, rfl, (show 2 ≤ sizeLine by decide), (show Vals [.int (0), .int (1)] _ from (.cons ⟨_, rfl⟩ (.cons ⟨_, rfl⟩ .nil)))⟩) (.cons (.int _) (.cons (.int _) .nil)))⟩⟩ }
  exact ⟨_, fun s v => .of_eq rfl, fun base _ _ => ok_law T⟩
end
end WW
open PySem PySem.W PyProof.Rows
set_option maxHeartbeats 0 in
theorem PySem.Challenge.cw_deedhouses_k17_ranks_sure_and_certain_st_holds : PySem.Challenge.rw_deedhouses_k17_ranks_sure_and_certain_st.Holds := by
  w_on; o_law; k_head; (case hw => w_witness2)
  k_fill
  refine Dh.law_end (l := PySem.Challenge.rw_deedhouses_k17_ranks_sure_and_certain_st) (n := 63) (k := 12) (x := "_law_script") (g := WW.f_law) rfl (by decide) rfl ⟨rfl, by decide, by decide⟩ (fun w h Y => PySem.W.kIn_of Y) WW.plain ?F
  case F =>
    intro w mg fa h KX G hmg
    refine' WW.all_mk KX G hmg ?a0 ?l0 ?c0 ?k0 ?a1 ?l1 ?c1 ?k1 ?a2 ?l2 ?c2 ?k2 ?a3 ?l3 ?c3 ?k3 ?a4 ?l4 ?c4 ?k4 ?a5 ?l5 ?c5 ?k5 ?a6 ?l6 ?c6 ?k6 ?a7 ?l7 ?c7 ?k7 ?a8 ?l8 ?c8 ?k8 ?a9 ?l9 ?c9 ?k9 ?a10 ?l10 ?c10 ?k10 ?a11 ?l11 ?c11 ?k11 ?a12 ?l12 ?c12 ?k12 ?a13 ?l13 ?c13 ?k13 ?a14 ?l14 ?c14 ?k14 ?a15 ?l15 ?c15 ?k15 ?a16 ?l16 ?c16 ?k16 ?a17 ?l17 ?c17 ?k17 ?a18 ?l18 ?c18 ?k18 ?a19 ?l19 ?c19 ?k19 ?a20 ?l20 ?c20 ?k20 ?a21 ?l21 ?c21 ?k21 ?a22 ?l22 ?c22 ?k22 ?a23 ?l23 ?c23 ?k23 ?a24 ?l24 ?c24 ?k24 ?a25 ?l25 ?c25 ?k25 ?a26 ?l26 ?c26 ?k26 ?a27 ?l27 ?c27 ?k27 ?a28 ?l28 ?c28 ?k28 ?a29 ?l29 ?c29 ?k29 ?a30 ?l30 ?c30 ?k30 ?a31 ?l31 ?c31 ?k31 ?a32 ?l32 ?c32 ?k32 ?a33 ?l33 ?c33 ?k33 ?a34 ?l34 ?c34 ?k34 ?a35 ?l35 ?c35 ?k35 ?a36 ?l36 ?c36 ?k36 ?a37 ?l37 ?c37 ?k37 ?a38 ?l38 ?c38 ?k38 ?a39 ?l39 ?c39 ?k39 ?a40 ?l40 ?c40 ?k40 ?a41 ?l41 ?c41 ?k41 ?a42 ?l42 ?c42 ?k42 ?a43 ?l43 ?c43 ?k43 ?a44 ?l44 ?c44 ?k44 ?a45 ?l45 ?c45 ?k45 ?a46 ?l46 ?c46 ?k46 ?a47 ?l47 ?c47 ?k47 ?a48 ?l48 ?c48 ?k48 ?a49 ?l49 ?c49 ?k49 ?a50 ?l50 ?c50 ?k50 ?a51 ?l51 ?c51 ?k51 ?a52 ?l52 ?c52 ?k52 ?a53 ?l53 ?c53 ?k53 ?a54 ?l54 ?c54 ?k54 ?a55 ?l55 ?c55 ?k55 ?a56 ?l56 ?c56 ?k56 ?a57 ?l57 ?c57 ?k57 ?a58 ?l58 ?c58 ?k58 ?a59 ?l59 ?c59 ?k59 ?a60 ?l60 ?c60 ?k60 ?a61 ?l61 ?c61 ?k61 ?a62 ?l62 ?c62 ?k62 ?a63 ?l63 ?c63 ?k63 ?a64 ?l64 ?c64 ?k64 ?a65 ?l65 ?c65 ?k65 ?a66 ?l66 ?c66 ?k66 ?a67 ?l67 ?c67 ?k67 ?a68 ?l68 ?c68 ?k68 ?z_abs ?z_all ?z_any ?z_bool ?z_divmod ?z_enumerate ?z_gcd ?z_int ?z_isinstance ?z_len ?z_list ?z_max ?z_min ?z_range ?z_repr ?z_sorted ?z_sum ?z_tuple ?z_zip ?g_MOST_DEEDS ?g_MOST_PAYS ?g_MOST_STANDS ?t5 ?g_ONE ?t8 ?g_ZERO
    (case a0 => k_is); (case l0 => k_is); (case c0 => k_is); (case k0 => k_is); (case a1 => k_is); (case l1 => k_is); (case c1 => k_is); (case k1 => k_is); (case a2 => k_is); (case l2 => k_is); (case c2 => k_is); (case k2 => k_is); (case a3 => k_is); (case l3 => k_is); (case c3 => k_is); (case k3 => k_is); (case a4 => k_is); (case l4 => k_is); (case c4 => k_is); (case k4 => k_is); (case a5 => k_is); (case l5 => k_is); (case c5 => k_is); (case k5 => k_is); (case a6 => k_is); (case l6 => k_is); (case c6 => k_is); (case k6 => k_is); (case a7 => k_is); (case l7 => k_is); (case c7 => k_is); (case k7 => k_is); (case a8 => k_is); (case l8 => k_is); (case c8 => k_is); (case k8 => k_is); (case a9 => k_is); (case l9 => k_is); (case c9 => k_is); (case k9 => k_is); (case a10 => k_is); (case l10 => k_is); (case c10 => k_is); (case k10 => k_is); (case a11 => k_is); (case l11 => k_is); (case c11 => k_is); (case k11 => k_is); (case a12 => k_is); (case l12 => k_is); (case c12 => k_is); (case k12 => k_is); (case a13 => k_is); (case l13 => k_is); (case c13 => k_is); (case k13 => k_is); (case a14 => k_is); (case l14 => k_is); (case c14 => k_is); (case k14 => k_is); (case a15 => k_is); (case l15 => k_is); (case c15 => k_is); (case k15 => k_is); (case a16 => k_is); (case l16 => k_is); (case c16 => k_is); (case k16 => k_is); (case a17 => k_is); (case l17 => k_is); (case c17 => k_is); (case k17 => k_is); (case a18 => k_is); (case l18 => k_is); (case c18 => k_is); (case k18 => k_is); (case a19 => k_is); (case l19 => k_is); (case c19 => k_is); (case k19 => k_is); (case a20 => k_is); (case l20 => k_is); (case c20 => k_is); (case k20 => k_is); (case a21 => k_is); (case l21 => k_is); (case c21 => k_is); (case k21 => k_is); (case a22 => k_is); (case l22 => k_is); (case c22 => k_is); (case k22 => k_is); (case a23 => k_is); (case l23 => k_is); (case c23 => k_is); (case k23 => k_is); (case a24 => k_is); (case l24 => k_is); (case c24 => k_is); (case k24 => k_is); (case a25 => k_is); (case l25 => k_is); (case c25 => k_is); (case k25 => k_is); (case a26 => k_is); (case l26 => k_is); (case c26 => k_is); (case k26 => k_is); (case a27 => k_is); (case l27 => k_is); (case c27 => k_is); (case k27 => k_is); (case a28 => k_is); (case l28 => k_is); (case c28 => k_is); (case k28 => k_is); (case a29 => k_is); (case l29 => k_is); (case c29 => k_is); (case k29 => k_is); (case a30 => k_is); (case l30 => k_is); (case c30 => k_is); (case k30 => k_is); (case a31 => k_is); (case l31 => k_is); (case c31 => k_is); (case k31 => k_is); (case a32 => k_is); (case l32 => k_is); (case c32 => k_is); (case k32 => k_is); (case a33 => k_is); (case l33 => k_is); (case c33 => k_is); (case k33 => k_is); (case a34 => k_is); (case l34 => k_is); (case c34 => k_is); (case k34 => k_is); (case a35 => k_is); (case l35 => k_is); (case c35 => k_is); (case k35 => k_is); (case a36 => k_is); (case l36 => k_is); (case c36 => k_is); (case k36 => k_is); (case a37 => k_is); (case l37 => k_is); (case c37 => k_is); (case k37 => k_is); (case a38 => k_is); (case l38 => k_is); (case c38 => k_is); (case k38 => k_is); (case a39 => k_is); (case l39 => k_is); (case c39 => k_is); (case k39 => k_is); (case a40 => k_is); (case l40 => k_is); (case c40 => k_is); (case k40 => k_is); (case a41 => k_is); (case l41 => k_is); (case c41 => k_is); (case k41 => k_is); (case a42 => k_is); (case l42 => k_is); (case c42 => k_is); (case k42 => k_is); (case a43 => k_is); (case l43 => k_is); (case c43 => k_is); (case k43 => k_is); (case a44 => k_is); (case l44 => k_is); (case c44 => k_is); (case k44 => k_is); (case a45 => k_is); (case l45 => k_is); (case c45 => k_is); (case k45 => k_is); (case a46 => k_is); (case l46 => k_is); (case c46 => k_is); (case k46 => k_is); (case a47 => k_is); (case l47 => k_is); (case c47 => k_is); (case k47 => k_is); (case a48 => k_is); (case l48 => k_is); (case c48 => k_is); (case k48 => k_is); (case a49 => k_is); (case l49 => k_is); (case c49 => k_is); (case k49 => k_is); (case a50 => k_is); (case l50 => k_is); (case c50 => k_is); (case k50 => k_is); (case a51 => k_is); (case l51 => k_is); (case c51 => k_is); (case k51 => k_is); (case a52 => k_is); (case l52 => k_is); (case c52 => k_is); (case k52 => k_is); (case a53 => k_is); (case l53 => k_is); (case c53 => k_is); (case k53 => k_is); (case a54 => k_is); (case l54 => k_is); (case c54 => k_is); (case k54 => k_is); (case a55 => k_is); (case l55 => k_is); (case c55 => k_is); (case k55 => k_is); (case a56 => k_is); (case l56 => k_is); (case c56 => k_is); (case k56 => k_is); (case a57 => k_is); (case l57 => k_is); (case c57 => k_is); (case k57 => k_is); (case a58 => k_is); (case l58 => k_is); (case c58 => k_is); (case k58 => k_is); (case a59 => k_is); (case l59 => k_is); (case c59 => k_is); (case k59 => k_is); (case a60 => k_is); (case l60 => k_is); (case c60 => k_is); (case k60 => k_is); (case a61 => k_is); (case l61 => k_is); (case c61 => k_is); (case k61 => k_is); (case a62 => k_is); (case l62 => k_is); (case c62 => k_is); (case k62 => k_is); (case a63 => k_is); (case l63 => k_is); (case c63 => k_is); (case k63 => k_is); (case a64 => k_is); (case l64 => k_is); (case c64 => k_is); (case k64 => k_is); (case a65 => k_is); (case l65 => k_is); (case c65 => k_is); (case k65 => k_is); (case a66 => k_is); (case l66 => k_is); (case c66 => k_is); (case k66 => k_is); (case a67 => k_is); (case l67 => k_is); (case c67 => k_is); (case k67 => k_is); (case a68 => k_is); (case l68 => k_is); (case c68 => k_is); (case k68 => k_is); (case z_abs => k_is); (case z_all => k_is); (case z_any => k_is); (case z_bool => k_is); (case z_divmod => k_is); (case z_enumerate => k_is); (case z_gcd => k_is); (case z_int => k_is); (case z_isinstance => k_is); (case z_len => k_is); (case z_list => k_is); (case z_max => k_is); (case z_min => k_is); (case z_range => k_is); (case z_repr => k_is); (case z_sorted => k_is); (case z_sum => k_is); (case z_tuple => k_is); (case z_zip => k_is); (case g_MOST_DEEDS => k_is); (case g_MOST_PAYS => k_is); (case g_MOST_STANDS => k_is); (case g_ONE => k_is); (case t5 => k_is); (case g_ZERO => k_is); (case t8 => k_is)
