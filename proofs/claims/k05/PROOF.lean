import PyProof.Rows.All
import Wide.All
import OpenK.AllK
import Wide.FinOn
import HandS.ForSpec
import HandS.ForMost
import HandS.Defaults
import HandS.IsInst
import HandS.SortInts
import HandS.Wide
import HandS.TupAny
import HandS.TupLe
import HandS.TupMul
import HandS.Conv
import HandS.Style
import HandS.Zip
import HandS.RaiseMore
import HandS.TupSets
import KE.GoesMore
import KE.GoesZip
import KE.GoesEnum
import HandS.OwnEq
import HandS.Gcd
import PyProof.InstNe
import OpenK.KWalk
import OpenK.KDescr
import PySem.Challenge.RW_saveagain_k05_whole_matrices_without_rou
set_option Elab.async false
set_option linter.all false
set_option maxRecDepth 100000
/-! Fx: pieces of Python described by plain functions on data. -/
namespace Fx
open PySem L2

/-- data -/
inductive D where
  | non | bl (b : Bool) | int (i : Int) | str (x : Str) | ref (a : Addr) | ty (n : String)
  | tup (xs : List D) | lst (xs : List D) | fz (xs : List D) | ins (n : Str) (fs : List (Str × D))
/-- a tuple of the written part -/
def KTup (K : PySem.W.Frag) (a : Addr) (xs : List V) : Prop := ∃ (o : Obj) (its : Array Value) (n : Nat), K.lookup a = some o ∧ o.cls = .type "tuple" ∧ o.data = .seq its n ∧ its.size ≤ sizeLine ∧ Vals xs its.toList
theorem KTup.sq {K : PySem.W.Frag} {a : Addr} {xs : List V} (h : KTup K a xs) (H : Hp) : SqT K H a xs := .inr h

abbrev MS := Addr → Prop
/-- the class of this name -/
def ClsAt (K : PySem.W.Frag) (n : Str) (C : Addr) : Prop := PySem.W.nsIn K mainGlobals n = some (some (.ref C))

mutual
/-- a value and the data it stands for; M: the objects that may still be changed -/
inductive Rp (K : PySem.W.Frag) (M : MS) (H : Hp) : V → D → Prop
  | non : Rp K M H .non .non
  | bl (b : Bool) : Rp K M H (.bl b) (.bl b)
  | int (i : Int) : Rp K M H (.int i) (.int i)
  | str (x : Str) : Rp K M H (.str x) (.str x)
  | ty (n : String) : Rp K M H (.ty n) (.ty n)
  | ref (a : Addr) : Rp K M H (.ref a) (.ref a)
  | lst {a : Addr} {xs : List V} {ds : List D} : H a = some (.lst xs) → ¬ M a → RpL K M H xs ds → Rp K M H (.ref a) (.lst ds)
  | fz {a : Addr} {xs : List V} {ds : List D} : Rd H a (.lst xs) → ¬ M a → RpL K M H xs ds → Rp K M H (.ref a) (.fz ds)
  | fzK {a : Addr} {xs : List V} {ds : List D} : (∀ H, SqL K H a xs) → RpL K M H xs ds → Rp K M H (.ref a) (.fz ds)
  | tup {a : Addr} {xs : List V} {ds : List D} : H a = some (.tup xs) → RpL K M H xs ds → Rp K M H (.ref a) (.tup ds)
  | tupK {a : Addr} {xs : List V} {ds : List D} : KTup K a xs → RpL K M H xs ds → Rp K M H (.ref a) (.tup ds)
  | ins {a C dx : Addr} {n : Str} {fs : List (Str × V)} {gs : List (Str × D)} : H a = some (.ins C dx fs) → ¬ M a → ClsAt K n C → fs.map (·.1) = gs.map (·.1) → RpL K M H (fs.map (·.2)) (gs.map (·.2)) → Rp K M H (.ref a) (.ins n gs)
inductive RpL (K : PySem.W.Frag) (M : MS) (H : Hp) : List V → List D → Prop
  | nil : RpL K M H [] []
  | cons {v : V} {vs : List V} {d : D} {ds : List D} : Rp K M H v d → RpL K M H vs ds → RpL K M H (v :: vs) (d :: ds)
end

/-- what may be changed stands -/
def MOk (M : MS) (H : Hp) : Prop := ∀ b, M b → Mut (H b)
/-- all but M is as it was -/
def Step (M : MS) (H H' : Hp) : Prop := ∀ b o, H b = some o → ¬ M b → H' b = some o
def Sub (M' M : MS) : Prop := ∀ b, M' b → M b
theorem Sub.rfl {M : MS} : Sub M M := fun _ h => h
theorem Sub.trans {M M' M'' : MS} (a : Sub M'' M') (b : Sub M' M) : Sub M'' M := fun x h => b x (a x h)
theorem Step.rfl {M : MS} {H : Hp} : Step M H H := fun _ _ h _ => h
theorem Step.trans {M M' : MS} {H H1 H2 : Hp} (a : Step M H H1) (b : Step M' H1 H2) (s : Sub M' M) : Step M H H2 := fun c o h n => b c o (a c o h n) fun z => n (s c z)
theorem Step.same {M : MS} {H H' : Hp} (h : Same H H') : Step M H H' := fun b o e _ => h b o e
theorem MOk.notTup {M : MS} {H : Hp} {a : Addr} {xs : List V} (m : MOk M H) (h : H a = some (.tup xs)) : ¬ M a := fun z => by
  have := m a z
  rw [h] at this
  exact this
theorem MOk.notFrz {M : MS} {H : Hp} {a : Addr} {o : Obj} {u : HO} (m : MOk M H) (h : H a = some (.frz o u)) : ¬ M a := fun z => by
  have := m a z
  rw [h] at this
  exact this
theorem MOk.same {M : MS} {H H' : Hp} (m : MOk M H) (s : Same H H') : MOk M H' := fun b z => by
  have q := m b z
  cases e : H b with
  | none => rw [e] at q; exact False.elim q
  | some o => rw [s b o e, ← e]; exact q
theorem MOk.there {M : MS} {H : Hp} {a : Addr} (m : MOk M H) (h : H a = none) : ¬ M a := fun z => by
  have q := m a z
  rw [h] at q
  exact q
theorem Rd.step {M : MS} {H H' : Hp} {a : Addr} {u : HO} (s : Step M H H') (n : ¬ M a) (h : Rd H a u) : Rd H' a u := by
  rcases h with h | ⟨o, h⟩
  · exact .inl (s a _ h n)
  · exact .inr ⟨o, s a _ h n⟩
theorem Rd.notMT {M : MS} {H : Hp} {a : Addr} {xs : List V} (m : MOk M H) (h : Rd H a (.tup xs)) : ¬ M a := by
  rcases h with h | ⟨o, h⟩
  · exact m.notTup h
  · exact m.notFrz h

/-- what comes behind: what is held to be changeable was so or is new; all else is as it was -/
structure Ev (M : MS) (H : Hp) (M' : MS) (H' : Hp) : Prop where
  old : ∀ b, M' b → M b ∨ H b = none
  st : Step M H H'
theorem Ev.rfl {M : MS} {H : Hp} : Ev M H M H := ⟨fun _ h => .inl h, .rfl⟩
theorem Ev.trans {M M1 M2 : MS} {H H1 H2 : Hp} (a : Ev M H M1 H1) (b : Ev M1 H1 M2 H2) : Ev M H M2 H2 := by
  refine ⟨fun c h => ?_, fun c o h n => b.st c o (a.st c o h n) fun z => ?_⟩
  · rcases b.old c h with h | h
    · exact a.old c h
    · by_cases hm : M c
      · exact .inl hm
      · refine .inr ?_
        cases e : H c with
        | none => rfl
        | some o =>
          rw [a.st c o e hm] at h
          cases h
  · rcases a.old c z with z | z
    · exact n z
    · rw [h] at z
      cases z
theorem Ev.same {M : MS} {H H' : Hp} (h : Same H H') : Ev M H M H' := ⟨fun _ h => .inl h, .same h⟩
theorem Ev.sub {M M' : MS} {H : Hp} (h : Sub M' M) : Ev M H M' H := ⟨fun b z => .inl (h b z), .rfl⟩
theorem Ev.not {M M' : MS} {H H' : Hp} {a : Addr} {o : HO} (e : Ev M H M' H') (h : H a = some o) (n : ¬ M a) : ¬ M' a := fun z => by
  rcases e.old a z with z | z
  · exact n z
  · rw [h] at z
    cases z
theorem Ev.notR {M M' : MS} {H H' : Hp} {a : Addr} {u : HO} (e : Ev M H M' H') (h : Rd H a u) (n : ¬ M a) : ¬ M' a := by
  rcases h with h | ⟨o, h⟩
  · exact e.not h n
  · exact e.not h n
mutual
theorem Rp.move {K : PySem.W.Frag} {M M' : MS} {H H' : Hp} (m : MOk M H) (v : Ev M H M' H') : ∀ {v : V} {d : D}, Rp K M H v d → Rp K M' H' v d
  | _, _, .non => .non
  | _, _, .bl b => .bl b
  | _, _, .int i => .int i
  | _, _, .str x => .str x
  | _, _, .ty n => .ty n
  | _, _, .ref a => .ref a
  | _, _, .lst h n l => .lst (v.st _ _ h n) (v.not h n) (RpL.move m v l)
  | _, _, .fz h n l => .fz (Rd.step v.st n h) (v.notR h n) (RpL.move m v l)
  | _, _, .fzK h l => .fzK h (RpL.move m v l)
  | _, _, .tup h l => .tup (v.st _ _ h (m.notTup h)) (RpL.move m v l)
  | _, _, .tupK h l => .tupK h (RpL.move m v l)
  | _, _, .ins h n c e l => .ins (v.st _ _ h n) (v.not h n) c e (RpL.move m v l)
theorem RpL.move {K : PySem.W.Frag} {M M' : MS} {H H' : Hp} (m : MOk M H) (v : Ev M H M' H') : ∀ {vs : List V} {ds : List D}, RpL K M H vs ds → RpL K M' H' vs ds
  | _, _, .nil => .nil
  | _, _, .cons h t => .cons (Rp.move m v h) (RpL.move m v t)
end
/-- M and one more -/
def With (M : MS) (p : Addr) : MS := fun b => M b ∨ b = p
def Wout (M : MS) (p : Addr) : MS := fun b => M b ∧ b ≠ p
theorem Rd.laid {H : Hp} {p a : Addr} {o u : HO} (e : H p = none) (h : Rd H a u) : Rd (upd H p o) a u ∧ a ≠ p := by
  rcases h with h | ⟨q, h⟩
  · exact ⟨.inl (by rw [upd_ne (ne_of_none h e)]; exact h), ne_of_none h e⟩
  · exact ⟨.inr ⟨q, by rw [upd_ne (ne_of_none h e)]; exact h⟩, ne_of_none h e⟩
mutual
/-- a fresh address is reached by nothing -/
theorem Rp.grow1 {K : PySem.W.Frag} {M : MS} {H : Hp} {p : Addr} {o : HO} (e : H p = none) : ∀ {v : V} {d : D}, Rp K M H v d → Rp K (With M p) (upd H p o) v d
  | _, _, .non => .non
  | _, _, .bl b => .bl b
  | _, _, .int i => .int i
  | _, _, .str x => .str x
  | _, _, .ty n => .ty n
  | _, _, .ref a => .ref a
  | _, _, .lst h n l => .lst (by rw [upd_ne (ne_of_none h e)]; exact h) (fun z => z.elim n (ne_of_none h e)) (RpL.grow1 e l)
  | _, _, .fz h n l => .fz (Rd.laid e h).1 (fun z => z.elim n (Rd.laid (o := o) e h).2) (RpL.grow1 e l)
  | _, _, .fzK h l => .fzK h (RpL.grow1 e l)
  | _, _, .tup h l => .tup (by rw [upd_ne (ne_of_none h e)]; exact h) (RpL.grow1 e l)
  | _, _, .tupK h l => .tupK h (RpL.grow1 e l)
  | _, _, .ins h n c q l => .ins (by rw [upd_ne (ne_of_none h e)]; exact h) (fun z => z.elim n (ne_of_none h e)) c q (RpL.grow1 e l)
theorem RpL.grow1 {K : PySem.W.Frag} {M : MS} {H : Hp} {p : Addr} {o : HO} (e : H p = none) : ∀ {vs : List V} {ds : List D}, RpL K M H vs ds → RpL K (With M p) (upd H p o) vs ds
  | _, _, .nil => .nil
  | _, _, .cons h t => .cons (Rp.grow1 e h) (RpL.grow1 e t)
end
theorem RpL.length {K : PySem.W.Frag} {M : MS} {H : Hp} : ∀ {vs : List V} {ds : List D}, RpL K M H vs ds → vs.length = ds.length
  | _, _, .nil => rfl
  | _, _, .cons _ t => congrArg Nat.succ t.length
theorem RpL.get {K : PySem.W.Frag} {M : MS} {H : Hp} : ∀ {vs : List V} {ds : List D} {i : Nat} {d : D}, RpL K M H vs ds → ds[i]? = some d → ∃ v, vs[i]? = some v ∧ Rp K M H v d
  | _, _, _, _, .nil, e => by simp at e
  | _, _, 0, _, .cons r _, e => by simp at e; subst e; exact ⟨_, rfl, r⟩
  | _, _, i + 1, d, .cons _ t, e => by
    obtain ⟨v, h1, h2⟩ := RpL.get (i := i) (d := d) t (by simpa using e)
    exact ⟨v, by simpa using h1, h2⟩
theorem RpL.get' {K : PySem.W.Frag} {M : MS} {H : Hp} : ∀ {vs : List V} {ds : List D} {i : Nat} {v : V}, RpL K M H vs ds → vs[i]? = some v → ∃ d, ds[i]? = some d ∧ Rp K M H v d
  | _, _, _, _, .nil, e => by simp at e
  | _, _, 0, _, .cons r _, e => by simp at e; subst e; exact ⟨_, rfl, r⟩
  | _, _, i + 1, v, .cons _ t, e => by
    obtain ⟨d, h1, h2⟩ := RpL.get' (i := i) (v := v) t (by simpa using e)
    exact ⟨d, by simpa using h1, h2⟩
theorem RpL.append {K : PySem.W.Frag} {M : MS} {H : Hp} : ∀ {vs ws : List V} {ds es : List D}, RpL K M H vs ds → RpL K M H ws es → RpL K M H (vs ++ ws) (ds ++ es)
  | _, _, _, _, .nil, s => s
  | _, _, _, _, .cons r t, s => .cons r (RpL.append t s)
theorem RpL.take {K : PySem.W.Frag} {M : MS} {H : Hp} : ∀ {vs : List V} {ds : List D} (n : Nat), RpL K M H vs ds → RpL K M H (vs.take n) (ds.take n)
  | _, _, 0, _ => .nil
  | _, _, _ + 1, .nil => .nil
  | _, _, n + 1, .cons r t => .cons r (RpL.take n t)
theorem RpL.drop {K : PySem.W.Frag} {M : MS} {H : Hp} : ∀ {vs : List V} {ds : List D} (n : Nat), RpL K M H vs ds → RpL K M H (vs.drop n) (ds.drop n)
  | _, _, 0, r => r
  | _, _, _ + 1, .nil => .nil
  | _, _, n + 1, .cons _ t => RpL.drop n t
theorem RpL.set {K : PySem.W.Frag} {M : MS} {H : Hp} {v : V} {d : D} (r : Rp K M H v d) : ∀ {vs : List V} {ds : List D} (i : Nat), RpL K M H vs ds → RpL K M H (vs.set i v) (ds.set i d)
  | _, _, _, .nil => .nil
  | _, _, 0, .cons _ t => .cons r t
  | _, _, i + 1, .cons q t => .cons q (RpL.set r i t)
theorem RpL.snoc {K : PySem.W.Frag} {M : MS} {H : Hp} {v : V} {d : D} {vs : List V} {ds : List D} (h : RpL K M H vs ds) (r : Rp K M H v d) : RpL K M H (vs ++ [v]) (ds ++ [d]) := h.append (.cons r .nil)

/-! ### what may be changed -/
inductive MO where
  | l (ds : List D) | i (n : Str) (fs : List (Str × D))
instance : Coe (List D) MO := ⟨MO.l⟩
def MO.d : MO → D
  | .l ds => .lst ds
  | .i n fs => .ins n fs
inductive MR (K : PySem.W.Frag) (M : MS) (H : Hp) : HO → MO → Prop
  | l {xs : List V} {ds : List D} : RpL K M H xs ds → MR K M H (.lst xs) (.l ds)
  | i {C dx : Addr} {n : Str} {fs : List (Str × V)} {gs : List (Str × D)} : ClsAt K n C → fs.map (·.1) = gs.map (·.1) → RpL K M H (fs.map (·.2)) (gs.map (·.2)) → MR K M H (.ins C dx fs) (.i n gs)
theorem MR.move {K : PySem.W.Frag} {M M' : MS} {H H' : Hp} {o : HO} {m : MO} (mo : MOk M H) (v : Ev M H M' H') (h : MR K M H o m) : MR K M' H' o m := by
  cases h with
  | l h => exact .l (h.move mo v)
  | i c e h => exact .i c e (h.move mo v)
theorem MR.grow1 {K : PySem.W.Frag} {M : MS} {H : Hp} {p : Addr} {o u : HO} {m : MO} (e : H p = none) (h : MR K M H o m) : MR K (With M p) (upd H p u) o m := by
  cases h with
  | l h => exact .l (h.grow1 e)
  | i c q h => exact .i c q (h.grow1 e)
theorem MR.mut {K : PySem.W.Frag} {M : MS} {H : Hp} {o : HO} {m : MO} (h : MR K M H o m) : Mut (some o) := by
  cases h <;> exact trivial
theorem MR.rp {K : PySem.W.Frag} {M : MS} {H : Hp} {a : Addr} {o : HO} {m : MO} (h : MR K M H o m) (e : H a = some o) (n : ¬ M a) : Rp K M H (.ref a) m.d := by
  cases h with
  | l h => exact .lst e n h
  | i c q h => exact .ins e n c q h
/-! ### slots -/
inductive Sl where
  | un | va (d : D) | ow (m : MO) | io (m : MO)
/-- what stays the same in a def's body -/
structure Bs where
  K : PySem.W.Frag
  H0 : Hp
  Mc : MS
  pa : Option Addr
  /-- objects that nobody may touch for now -/
  L : Addr → Option HO
/-- a slot's own list, or the one handed in -/
def Own (σ : L2.St) (s : List Sl) (a : Addr) : Prop := ∃ (i : Nat) (ds : MO), (s[i]? = some (.ow ds) ∨ s[i]? = some (.io ds)) ∧ σ[i]? = some (some (.ref a))

structure SR (B : Bs) (M : MS) (σ : L2.St) (H : Hp) (s : List Sl) : Prop where
  va : ∀ (i : Nat) (d : D), s[i]? = some (.va d) → ∃ v, σ[i]? = some (some v) ∧ Rp B.K M H v d
  ow : ∀ (i : Nat) (ds : MO), s[i]? = some (.ow ds) → ∃ a xs, σ[i]? = some (some (.ref a)) ∧ H a = some xs ∧ M a ∧ B.H0 a = none ∧ MR B.K M H xs ds
  io : ∀ (i : Nat) (ds : MO), s[i]? = some (.io ds) → i = 0 ∧ ∃ a xs, B.pa = some a ∧ σ[0]? = some (some (.ref a)) ∧ H a = some xs ∧ M a ∧ MR B.K M H xs ds
  pa : ∀ a, B.pa = some a → B.Mc a ∧ ∃ ds : MO, s[0]? = some (Sl.io ds)
  ne : ∀ (i j : Nat) (ds es : MO) (a : Addr), i ≠ j → s[i]? = some (.ow ds) → s[j]? = some (.ow es) → σ[i]? = some (some (.ref a)) → σ[j]? = some (some (.ref a)) → False
  mo : MOk M H
  up : ∀ b, B.Mc b → M b
  dn : ∀ b, M b → B.Mc b ∨ B.H0 b = none
  st : Step (fun b => B.pa = some b) B.H0 H
  bm : MOk B.Mc B.H0
  lk : ∀ b o, B.L b = some o → M b ∧ H b = some o ∧ ¬ Own σ s b
  len : s.length = σ.length

theorem nth_set {α : Type} {l : List α} {i j : Nat} {x y : α} (h : (l.set i x)[j]? = some y) : (i = j ∧ y = x) ∨ (i ≠ j ∧ l[j]? = some y) := by
  by_cases e : i = j
  · subst e
    refine .inl ⟨rfl, ?_⟩
    by_cases hi : i < l.length
    · rw [List.getElem?_set_self hi] at h
      exact (Option.some.inj h).symm
    · rw [List.getElem?_eq_none (by simpa using hi)] at h
      cases h
  · rw [List.getElem?_set_ne e] at h
    exact .inr ⟨e, h⟩
/-- what is owned behind a store at i was so, or is what is stored -/
theorem Own.of_set {σ : L2.St} {s : List Sl} {i : Nat} {x : Option V} {y : Sl} {b : Addr} (h : Own (σ.set i x) (s.set i y) b) : Own σ s b ∨ ((∃ ds, y = .ow ds ∨ y = .io ds) ∧ x = some (.ref b)) := by
  obtain ⟨j, ds, h1, h2⟩ := h
  rcases nth_set h2 with ⟨rfl, e⟩ | ⟨n, h2⟩
  · rcases h1 with h1 | h1
    · rcases nth_set h1 with ⟨_, e1⟩ | ⟨n, _⟩
      · exact .inr ⟨⟨ds, .inl e1.symm⟩, e.symm⟩
      · exact absurd rfl n
    · rcases nth_set h1 with ⟨_, e1⟩ | ⟨n, _⟩
      · exact .inr ⟨⟨ds, .inr e1.symm⟩, e.symm⟩
      · exact absurd rfl n
  · rw [List.getElem?_set_ne n] at h1
    exact .inl ⟨j, ds, h1, h2⟩
theorem Own.of_set2 {σ : L2.St} {s : List Sl} {i : Nat} {y : Sl} {b : Addr} (h : Own σ (s.set i y) b) : Own σ s b ∨ ((∃ ds, y = .ow ds ∨ y = .io ds) ∧ σ[i]? = some (some (.ref b))) := by
  obtain ⟨j, ds, h1, h2⟩ := h
  by_cases e : i = j
  · subst e
    rcases h1 with h1 | h1
    · rcases nth_set h1 with ⟨_, e1⟩ | ⟨n, _⟩
      · exact .inr ⟨⟨ds, .inl e1.symm⟩, h2⟩
      · exact absurd rfl n
    · rcases nth_set h1 with ⟨_, e1⟩ | ⟨n, _⟩
      · exact .inr ⟨⟨ds, .inr e1.symm⟩, h2⟩
      · exact absurd rfl n
  · rw [List.getElem?_set_ne e] at h1
    exact .inl ⟨j, ds, h1, h2⟩

section
variable {B : Bs} {M M' : MS} {σ : L2.St} {H H' : Hp} {s : List Sl}
/-- the heap grows -/
theorem SR.grow (r : SR B M σ H s) (g : Same H H') : SR B M σ H' s where
  va := fun i d h => let ⟨v, e, q⟩ := r.va i d h; ⟨v, e, q.move r.mo (.same g)⟩
  ow := fun i ds h => let ⟨a, xs, e, q, m, n, l⟩ := r.ow i ds h; ⟨a, xs, e, g _ _ q, m, n, l.move r.mo (.same g)⟩
  io := fun i ds h => let ⟨z, a, xs, p, e, q, m, l⟩ := r.io i ds h; ⟨z, a, xs, p, e, g _ _ q, m, l.move r.mo (.same g)⟩
  pa := r.pa
  ne := r.ne
  mo := r.mo.same g
  up := r.up
  dn := r.dn
  st := r.st.trans (.same g) .rfl
  bm := r.bm
  lk := fun b o e => let ⟨h1, h2, h3⟩ := r.lk b o e; ⟨h1, g _ _ h2, h3⟩
  len := r.len
/-- a name is stored -/
theorem SR.put {i : Nat} {v : V} {d : D} (r : SR B M σ H s) (h : Rp B.K M H v d) (hi : ∀ ds : MO, s[i]? ≠ some (.io ds)) (hl : i < s.length) : SR B M (σ.set i (some v)) H (s.set i (.va d)) where
  va := fun j e h1 => by
    rcases nth_set h1 with ⟨rfl, e1⟩ | ⟨n, h2⟩
    · cases e1
      exact ⟨v, by rw [List.getElem?_set_self (r.len ▸ hl)], h⟩
    · rw [List.getElem?_set_ne n]
      exact r.va j e h2
  ow := fun j e h1 => by
    rcases nth_set h1 with ⟨rfl, e1⟩ | ⟨n, h2⟩
    · cases e1
    · rw [List.getElem?_set_ne n]
      exact r.ow j e h2
  io := fun j e h1 => by
    rcases nth_set h1 with ⟨rfl, e1⟩ | ⟨n, h2⟩
    · cases e1
    · have q := r.io j e h2
      rw [List.getElem?_set_ne (q.1 ▸ n)]
      exact q
  pa := fun a ha => by
    obtain ⟨h1, ds, h2⟩ := r.pa a ha
    refine ⟨h1, ds, ?_⟩
    have ei : i ≠ 0 := fun z => hi ds (by rw [z]; exact h2)
    rw [List.getElem?_set_ne ei]
    exact h2
  ne := fun j k ds es a n h1 h2 h3 h4 => by
    rcases nth_set h1 with ⟨rfl, e1⟩ | ⟨n1, h1⟩
    · cases e1
    · rcases nth_set h2 with ⟨rfl, e1⟩ | ⟨n2, h2⟩
      · cases e1
      · rw [List.getElem?_set_ne n1] at h3
        rw [List.getElem?_set_ne n2] at h4
        exact r.ne j k ds es a n h1 h2 h3 h4
  mo := r.mo
  up := r.up
  dn := r.dn
  st := r.st
  bm := r.bm
  lk := fun b o e => by
    obtain ⟨h1, h2, h3⟩ := r.lk b o e
    refine ⟨h1, h2, fun z => ?_⟩
    rcases z.of_set with z | ⟨⟨ds, z | z⟩, _⟩
    · exact h3 z
    · cases z
    · cases z
  len := by rw [List.length_set, List.length_set]; exact r.len
/-- a name holds a list of its own -/
theorem SR.putOw {i : Nat} {p : Addr} {xs : HO} {ds : MO} (r : SR B M σ H s) (hp : H p = some xs) (hm : M p) (h0 : B.H0 p = none) (hx : MR B.K M H xs ds) (hn : ∀ (j : Nat) (es : MO), s[j]? = some (.ow es) → σ[j]? ≠ some (some (.ref p)))
    (hL : B.L p = none) (hi : ∀ ds : MO, s[i]? ≠ some (.io ds)) (hl : i < s.length) : SR B M (σ.set i (some (.ref p))) H (s.set i (.ow ds)) where
  va := fun j e h1 => by
    rcases nth_set h1 with ⟨rfl, e1⟩ | ⟨n, h2⟩
    · cases e1
    · rw [List.getElem?_set_ne n]
      exact r.va j e h2
  ow := fun j e h1 => by
    rcases nth_set h1 with ⟨rfl, e1⟩ | ⟨n, h2⟩
    · cases e1
      exact ⟨p, xs, by rw [List.getElem?_set_self (r.len ▸ hl)], hp, hm, h0, hx⟩
    · rw [List.getElem?_set_ne n]
      exact r.ow j e h2
  io := fun j e h1 => by
    rcases nth_set h1 with ⟨rfl, e1⟩ | ⟨n, h2⟩
    · cases e1
    · have q := r.io j e h2
      rw [List.getElem?_set_ne (q.1 ▸ n)]
      exact q
  pa := fun a ha => by
    obtain ⟨h1, ds, h2⟩ := r.pa a ha
    refine ⟨h1, ds, ?_⟩
    have ei : i ≠ 0 := fun z => hi ds (by rw [z]; exact h2)
    rw [List.getElem?_set_ne ei]
    exact h2
  ne := fun j k es fs a n h1 h2 h3 h4 => by
    rcases nth_set h1 with ⟨rfl, e1⟩ | ⟨n1, h1⟩
    · rcases nth_set h2 with ⟨rfl, e1⟩ | ⟨n2, h2⟩
      · exact n rfl
      · rw [List.getElem?_set_self (r.len ▸ hl)] at h3
        rw [List.getElem?_set_ne n2] at h4
        cases h3
        exact hn k _ h2 h4
    · rcases nth_set h2 with ⟨rfl, e1⟩ | ⟨n2, h2⟩
      · rw [List.getElem?_set_self (r.len ▸ hl)] at h4
        rw [List.getElem?_set_ne n1] at h3
        cases h4
        exact hn j _ h1 h3
      · rw [List.getElem?_set_ne n1] at h3
        rw [List.getElem?_set_ne n2] at h4
        exact r.ne j k es fs a n h1 h2 h3 h4
  mo := r.mo
  up := r.up
  dn := r.dn
  st := r.st
  bm := r.bm
  lk := fun b o e => by
    obtain ⟨h1, h2, h3⟩ := r.lk b o e
    refine ⟨h1, h2, fun z => ?_⟩
    rcases z.of_set with z | ⟨_, z⟩
    · exact h3 z
    · cases z
      rw [hL] at e
      cases e
  len := by rw [List.length_set, List.length_set]; exact r.len
/-- a new list, owned -/
theorem SR.laidO {p : Addr} {xs : HO} (mu : Mut (some xs)) (r : SR B M σ H s) (e : H p = none) : SR B (With M p) σ (upd H p xs) s := by
  have g : Same H (upd H p xs) := fun b o h => by rw [upd_ne (ne_of_none h e)]; exact h
  have mW : MOk (With M p) (upd H p xs) := fun b z => by
    by_cases hb : b = p
    · subst hb; rw [upd_same]; exact mu
    · rw [upd_ne hb]
      exact z.elim (r.mo b) fun q => absurd q hb
  have mv : ∀ {v : V} {d : D}, Rp B.K M H v d → Rp B.K (With M p) (upd H p xs) v d := fun {v d} q => Rp.grow1 e q
  have mvL : ∀ {v : List V} {d : List D}, RpL B.K M H v d → RpL B.K (With M p) (upd H p xs) v d := fun {v d} q => RpL.grow1 e q
  exact {
    va := fun i d h => let ⟨v, e, q⟩ := r.va i d h; ⟨v, e, mv q⟩
    ow := fun i ds h => let ⟨a, xs, e', q, m, n, l⟩ := r.ow i ds h; ⟨a, xs, e', g _ _ q, .inl m, n, l.grow1 e⟩
    io := fun i ds h => let ⟨z, a, xs, p, e', q, m, l⟩ := r.io i ds h; ⟨z, a, xs, p, e', g _ _ q, .inl m, l.grow1 e⟩
    pa := r.pa
    ne := r.ne
    mo := mW
    up := fun b z => .inl (r.up b z)
    dn := fun b z => z.elim (r.dn b) fun q => .inr (by
      subst q
      cases h : B.H0 b with
      | none => rfl
      | some o =>
        by_cases hp : B.pa = some b
        · obtain ⟨h1, ds, h2⟩ := r.pa b hp
          obtain ⟨_, a, xs', h3, _, h5, _⟩ := r.io 0 ds h2
          rw [hp] at h3; cases h3
          rw [e] at h5; cases h5
        · have := r.st b o h hp
          rw [e] at this; cases this)
    st := r.st.trans (.same g) .rfl
    bm := r.bm
    lk := fun b o e => let ⟨h1, h2, h3⟩ := r.lk b o e; ⟨.inl h1, g _ _ h2, h3⟩
    len := r.len }
theorem SR.laid {p : Addr} {xs : List V} (r : SR B M σ H s) (e : H p = none) : SR B (With M p) σ (upd H p (.lst xs)) s := r.laidO (xs := .lst xs) trivial e
/-- the list of one's own at slot k (or the one handed in) has changed -/
theorem SR.mutated {k : Nat} {a : Addr} {xs : HO} {ds es : MO} {io : Bool} (r : SR B M σ H s) (hk : s[k]? = some (if io then .io ds else .ow ds)) (hs : σ[k]? = some (some (.ref a))) (ha : H' a = some xs) (hx : MR B.K M H' xs es) (st : Step (fun b => b = a) H H') :
    SR B M σ H' (s.set k (if io then .io es else .ow es)) ∧ Ev M H M H' := by
  have hm : M a ∧ (io = false → B.H0 a = none) ∧ (io = true → B.pa = some a ∧ k = 0) := by
    cases io with
    | true =>
      obtain ⟨z, a', xs', h1, h2, h3, h4, h5⟩ := r.io k ds hk
      subst z
      rw [h2] at hs; cases hs
      exact ⟨h4, (fun z => by cases z), fun _ => ⟨h1, rfl⟩⟩
    | false =>
      obtain ⟨a', xs', h1, h2, h3, h4, h5⟩ := r.ow k ds hk
      rw [h1] at hs; cases hs
      exact ⟨h3, fun _ => h4, (fun z => by cases z)⟩
  obtain ⟨hM, hO, hI⟩ := hm
  have ev : Ev M H M H' := ⟨fun _ z => .inl z, fun b o e n => st b o e fun z => n (z ▸ hM)⟩
  have hl : k < s.length := (List.getElem?_eq_some_iff.mp hk).1
  refine ⟨?_, ev⟩
  exact {
    va := fun j d h1 => by
      rcases nth_set h1 with ⟨rfl, e1⟩ | ⟨n, h2⟩
      · cases io <;> cases e1
      · obtain ⟨v, e, q⟩ := r.va j d h2
        exact ⟨v, e, q.move r.mo ev⟩
    ow := fun j d h1 => by
      rcases nth_set h1 with ⟨rfl, e1⟩ | ⟨n, h2⟩
      · cases io with
        | true => cases e1
        | false =>
          cases e1
          exact ⟨a, xs, hs, ha, hM, hO rfl, hx⟩
      · obtain ⟨a2, xs2, e, q, m2, n2, l2⟩ := r.ow j d h2
        have ne : a2 ≠ a := fun z => by
          subst z
          cases io with
          | true =>
            have q0 := r.bm.there n2
            exact q0 (r.pa _ (hI rfl).1).1
          | false => exact r.ne k j ds d a2 n hk h2 hs e
        exact ⟨a2, xs2, e, st _ _ q ne, m2, n2, l2.move r.mo ev⟩
    io := fun j d h1 => by
      rcases nth_set h1 with ⟨rfl, e1⟩ | ⟨n, h2⟩
      · cases io with
        | false => cases e1
        | true =>
          cases e1
          obtain ⟨p1, p2⟩ := hI rfl
          subst p2
          exact ⟨rfl, a, xs, p1, hs, ha, hM, hx⟩
      · obtain ⟨z, a2, xs2, p2, e, q, m2, l2⟩ := r.io j d h2
        have ne : a2 ≠ a := fun y => by
          subst y
          cases io with
          | true => exact n ((hI rfl).2.trans z.symm)
          | false => exact r.bm.there (hO rfl) (r.pa _ p2).1
        exact ⟨z, a2, xs2, p2, e, st _ _ q ne, m2, l2.move r.mo ev⟩
    pa := fun b hb => by
      obtain ⟨h1, fs, h2⟩ := r.pa b hb
      refine ⟨h1, ?_⟩
      by_cases hk0 : k = 0
      · subst hk0
        rw [h2] at hk
        cases io with
        | false => cases hk
        | true => exact ⟨es, by rw [List.getElem?_set_self hl]; rfl⟩
      · exact ⟨fs, by rw [List.getElem?_set_ne hk0]; exact h2⟩
    ne := fun i j d1 d2 b n h1 h2 h3 h4 => by
      have old : ∀ (i : Nat) (d : MO), (s.set k (if io = true then Sl.io es else Sl.ow es))[i]? = some (.ow d) → ∃ d', s[i]? = some (.ow d') := fun i d h => by
        rcases nth_set h with ⟨rfl, e1⟩ | ⟨n, h2⟩
        · cases io with
          | true => cases e1
          | false => exact ⟨ds, hk⟩
        · exact ⟨d, h2⟩
      obtain ⟨d1', h1'⟩ := old i d1 h1
      obtain ⟨d2', h2'⟩ := old j d2 h2
      exact r.ne i j d1' d2' b n h1' h2' h3 h4
    mo := fun b z => by
      by_cases hb : b = a
      · subst hb; rw [ha]; exact hx.mut
      · have q := r.mo b z
        cases e : H b with
        | none => rw [e] at q; exact q.elim
        | some o => rw [st b o e hb, ← e]; exact q
    up := r.up
    dn := r.dn
    st := fun b o h n => st b o (r.st b o h n) fun z => by
      subst z
      cases io with
      | true => exact n (hI rfl).1
      | false => rw [hO rfl] at h; cases h
    bm := r.bm
    lk := fun b o e => by
      obtain ⟨h1, h2, h3⟩ := r.lk b o e
      have hO : Own σ s a := ⟨k, ds, by cases io with
        | true => exact .inr hk
        | false => exact .inl hk, hs⟩
      have nb : b ≠ a := fun z => h3 (z ▸ hO)
      refine ⟨h1, st _ _ h2 nb, fun z => ?_⟩
      rcases z.of_set2 with z | ⟨_, z⟩
      · exact h3 z
      · rw [hs] at z
        cases z
        exact nb rfl
    len := by rw [List.length_set]; exact r.len }
end
end Fx

set_option Elab.async false
set_option linter.all false
set_option maxRecDepth 100000
namespace Fx
open PySem L2

/-- an exception: its class, its fields -/
structure XD where
  C : Str
  fs : List (Str × D)
def XR (K : PySem.W.Frag) (M : MS) (H : Hp) (cls : Value) (od : Option Addr) (x : XD) : Prop :=
  ∃ C : Addr, ClsAt K x.C C ∧ cls = .ref C ∧ ((od = none ∧ x.fs = []) ∨ ∃ (d : Addr) (vs : List (Str × V)), od = some d ∧ H d = some (.xd vs) ∧ vs.map (·.1) = x.fs.map (·.1) ∧ RpL K M H (vs.map (·.2)) (x.fs.map (·.2)))
/-- what a piece comes to -/
inductive R (α : Type) where
  | ok (a : α) (s : List Sl) | er (x : XD) (s : List Sl) | no
def R.bind {α β : Type} (r : R α) (f : α → List Sl → R β) : R β :=
  match r with
  | .ok a s => f a s
  | .er x s => .er x s
  | .no => .no
@[simp] theorem R.bind_ok {α β : Type} {a : α} {s : List Sl} {f : α → List Sl → R β} : (R.ok a s).bind f = f a s := rfl
@[simp] theorem R.bind_er {α β : Type} {x : XD} {s : List Sl} {f : α → List Sl → R β} : (R.er x s).bind f = .er x s := rfl
@[simp] theorem R.bind_no {α β : Type} {f : α → List Sl → R β} : (R.no).bind f = .no := rfl
abbrev F (α : Type) := List Sl → R α
abbrev RelT (β α : Type) := MS → Hp → β → α → Prop

variable {α β γ δ : Type}
def Post (B : Bs) (W : WX) (rho : RelT β α) (M : MS) (H : Hp) (σ : L2.St) (r : R α) (Q : β → Hp → Prop) : Prop :=
  match r with
  | .ok d s' => ∀ v H' M', SR B M' σ H' s' → rho M' H' v d → Ev M H M' H' → Q v H'
  | .er x s' => ∀ cls od H' M', SR B M' σ H' s' → XR B.K M' H' cls od x → W cls od σ H'
  | .no => False
def tP (B : Bs) (W : WX) (rho : RelT β α) (f : F α) : L2.St → Hp → (β → Hp → Prop) → Prop := fun σ H Q => ∃ M s, SR B M σ H s ∧ Post B W rho M H σ (f s) Q
section
variable {B : Bs} {W : WX} {rho : RelT β α} {rho' : RelT δ γ} {M M' : MS} {σ : L2.St} {H H' : Hp} {s : List Sl}
theorem Post.later {r : R α} {Q : β → Hp → Prop} (h : Post B W rho M H σ r Q) (ev : Ev M H M' H') : Post B W rho M' H' σ r Q := by
  cases r with
  | ok d s' => exact fun v H2 M2 a b c => h v H2 M2 a b (ev.trans c)
  | er x s' => exact h
  | no => exact h
theorem Post.bind {r : R α} {g : α → F γ} {Q : δ → Hp → Prop} {Q1 : β → Hp → Prop} (h : Post B W rho' M H σ (r.bind g) Q)
    (k : ∀ d s1 M1 H1 x, SR B M1 σ H1 s1 → rho M1 H1 x d → Ev M H M1 H1 → Post B W rho' M1 H1 σ (g d s1) Q → Q1 x H1) : Post B W rho M H σ r Q1 := by
  cases r with
  | ok d s' => exact fun v H2 M2 a b c => k d s' M2 H2 v a b c (Post.later h c)
  | er x s' => exact h
  | no => exact h
theorem Post.out {d : α} {Q : β → Hp → Prop} {v : β} (h : Post B W rho M H σ (.ok d s) Q) (r : SR B M σ H s) (q : rho M H v d) : Q v H := h v H M r q .rfl
theorem Post.grow {d : α} {Q : β → Hp → Prop} {v : β} (h : Post B W rho M H σ (.ok d s) Q) (r : SR B M σ H s) (g : Same H H') (q : rho M H' v d) : Q v H' := h v H' M (r.grow g) q (.same g)
end

/-! ### judgements -/
abbrev rhoD (B : Bs) : RelT V D := fun M H v d => Rp B.K M H v d
abbrev rhoL (B : Bs) : RelT (List V) (List D) := fun M H v d => RpL B.K M H v d
abbrev rhoB : RelT Bool Bool := fun _ _ b c => b = c
abbrev rhoI : RelT (Option Int) (Option Int) := fun _ _ b c => b = c
def SE (X : Cx) (B : Bs) (W : WX) (e : Expr) (f : F D) : Prop := PE X e (tP B W (rhoD B) f)
def SA (X : Cx) (B : Bs) (W : WX) (es : List Expr) (f : F (List D)) : Prop := PA X es (tP B W (rhoL B) f)
def ST (X : Cx) (B : Bs) (W : WX) (e : Expr) (f : F Bool) : Prop := PT X e (tP B W rhoB f)
def SO (X : Cx) (B : Bs) (W : WX) (e : Option Expr) (f : F (Option Int)) : Prop := PO X e (tP B W rhoI f)

theorem PE.imp {X : Cx} {e : Expr} {t u : TE} (h : PE X e t) (k : ∀ σ H Q, u σ H Q → t σ H Q) : PE X e u := ⟨fun pins s σ H Q I q => h.run pins s σ H Q I (k σ H Q q)⟩
theorem PT.imp {X : Cx} {e : Expr} {t u : TT} (h : PT X e t) (k : ∀ σ H Q, u σ H Q → t σ H Q) : PT X e u := ⟨fun pins s σ H Q I q => h.run pins s σ H Q I (k σ H Q q)⟩
theorem PA.imp {X : Cx} {es : List Expr} {t u : TA} (h : PA X es t) (k : ∀ σ H Q, u σ H Q → t σ H Q) : PA X es u := ⟨fun pos pins s σ H Q I q => h.run pos pins s σ H Q I (k σ H Q q)⟩
theorem PS.imp {X : Cx} {st : Stmt} {t u : TS} (h : PS X st t) (k : ∀ D σ H, u D σ H → t D σ H) : PS X st u := ⟨fun pins s σ H D I q => h.run pins s σ H D I (k D σ H q)⟩
theorem PSs.imp {X : Cx} {st : List Stmt} {t u : TS} (h : PSs X st t) (k : ∀ D σ H, u D σ H → t D σ H) : PSs X st u := ⟨fun pins s σ H D I q => h.run pins s σ H D I (k D σ H q)⟩
theorem PG.imp {X : Cx} {tg : Expr} {t u : TG} (h : PG X tg t) (k : ∀ v σ H Q, u v σ H Q → t v σ H Q) : PG X tg u := ⟨fun pins s σ H v w Q I r q => h.run pins s σ H v w Q I r (k v σ H Q q)⟩

section
variable {X : Cx} {B : Bs} {W : WX} {a b c : Expr} {f g h : F D} {pos : Pos}

/-! ### names, constants -/
def nameF (i : Nat) : F D := fun s => match s[i]? with
  | some (.va d) => .ok d s
  | some (.ow m) => .ok m.d (s.set i (.va m.d))
  | _ => .no
/-- an own list becomes a value -/
theorem SR.freeze {M : MS} {σ : L2.St} {H : Hp} {s : List Sl} {i : Nat} {ds : MO} (r : SR B M σ H s) (h : s[i]? = some (.ow ds)) : ∃ (a : Addr) (xs : HO), σ[i]? = some (some (.ref a)) ∧ H a = some xs ∧ MR B.K (Wout M a) H xs ds ∧ SR B (Wout M a) σ H (s.set i (.va ds.d)) := by
  obtain ⟨a, xs, e, q, m, n, l⟩ := r.ow i ds h
  have sb : Sub (Wout M a) M := fun b z => z.1
  have hl : i < s.length := (List.getElem?_eq_some_iff.mp h).1
  have mv : ∀ {v : V} {d : D}, Rp B.K M H v d → Rp B.K (Wout M a) H v d := fun q => q.move r.mo (.sub sb)
  have mvL : ∀ {v : HO} {d : MO}, MR B.K M H v d → MR B.K (Wout M a) H v d := fun q => q.move r.mo (.sub sb)
  have nmc : ¬ B.Mc a := fun z => r.bm.there n z
  refine ⟨a, xs, e, q, mvL l, ?_⟩
  exact {
    va := fun j d h1 => by
      rcases nth_set h1 with ⟨rfl, e1⟩ | ⟨n1, h2⟩
      · cases e1
        exact ⟨_, e, (mvL l).rp q (fun z => z.2 rfl)⟩
      · obtain ⟨v, e2, q2⟩ := r.va j d h2
        exact ⟨v, e2, mv q2⟩
    ow := fun j es h1 => by
      rcases nth_set h1 with ⟨rfl, e1⟩ | ⟨n1, h2⟩
      · cases e1
      · obtain ⟨a2, xs2, e2, q2, m2, n2, l2⟩ := r.ow j es h2
        exact ⟨a2, xs2, e2, q2, ⟨m2, fun z => r.ne i j ds es a n1 h h2 e (z ▸ e2)⟩, n2, mvL l2⟩
    io := fun j es h1 => by
      rcases nth_set h1 with ⟨rfl, e1⟩ | ⟨n1, h2⟩
      · cases e1
      · obtain ⟨z, a2, xs2, p2, e2, q2, m2, l2⟩ := r.io j es h2
        refine ⟨z, a2, xs2, p2, e2, q2, ⟨m2, fun z => nmc (z ▸ (r.pa a2 p2).1)⟩, mvL l2⟩
    pa := fun b hb => by
      obtain ⟨h1, es, h2⟩ := r.pa b hb
      refine ⟨h1, es, ?_⟩
      have ei : i ≠ 0 := fun z => by rw [z, h2] at h; cases h
      rw [List.getElem?_set_ne ei]
      exact h2
    ne := fun j k es fs b n1 h1 h2 h3 h4 => by
      rcases nth_set h1 with ⟨rfl, e1⟩ | ⟨_, h1⟩
      · cases e1
      · rcases nth_set h2 with ⟨rfl, e1⟩ | ⟨_, h2⟩
        · cases e1
        · exact r.ne j k es fs b n1 h1 h2 h3 h4
    mo := fun b z => r.mo b z.1
    up := fun b z => ⟨r.up b z, fun y => nmc (y ▸ z)⟩
    dn := fun b z => r.dn b z.1
    st := r.st
    bm := r.bm
    lk := fun b o e2 => by
      obtain ⟨h1, h2, h3⟩ := r.lk b o e2
      have nb : b ≠ a := fun z => h3 (z ▸ ⟨i, ds, .inl h, e⟩)
      refine ⟨⟨h1, nb⟩, h2, fun z => ?_⟩
      rcases z.of_set2 with z | ⟨⟨ds, z | z⟩, _⟩
      · exact h3 z
      · cases z
      · cases z
    len := by rw [List.length_set]; exact r.len }
theorem se_name (i : Nat) {x : Str} (hN : X.N[i]? = some x := by rfl) (hv : Vis X.env.scope x := by first | exact Or.inl rfl | exact Or.inr (Or.inl rfl) | exact Or.inr (Or.inr rfl)) (hd : (x == ("__debug__" : Str)) = false := by decide)
    (hcd : (x == ("__classdict__" : Str)) = false := by decide) : SE X B W (.Name x pos) (nameF i) := by
  refine PE.imp (pe_var hN hv hd hcd) fun σ H Q ⟨M, s, r, p⟩ => ?_
  unfold nameF at p
  split at p
  · rename_i d e
    obtain ⟨v, e1, q⟩ := r.va i d e
    exact ⟨v, e1, p.out r q⟩
  · rename_i ds e
    obtain ⟨a, xs, e1, q, l, r'⟩ := r.freeze e
    exact ⟨_, e1, p _ H _ r' (l.rp q (fun z => z.2 rfl)) (.sub fun b z => z.1)⟩
  · exact p.elim
def cF (d : D) : F D := fun s => .ok d s
theorem se_int {i : Int} {j} : SE X B W (.Constant (.int i) j pos) (cF (.int i)) := PE.imp pe_int fun σ H Q ⟨M, s, r, p⟩ => p.out r (.int i)
theorem se_bl {i : Bool} {j} : SE X B W (.Constant (.bool i) j pos) (cF (.bl i)) := PE.imp pe_bl fun σ H Q ⟨M, s, r, p⟩ => p.out r (.bl i)
theorem se_non {j} : SE X B W (.Constant .none j pos) (cF .non) := PE.imp pe_non fun σ H Q ⟨M, s, r, p⟩ => p.out r .non
theorem se_str {x : Str} {j} : SE X B W (.Constant (.str x) j pos) (cF (.str x)) := PE.imp pe_str fun σ H Q ⟨M, s, r, p⟩ => p.out r (.str x)
/-- a module's constant -/
structure Glb (X : Cx) (B : Bs) (x : Str) (d : D) : Prop where
  ex : ∃ (v : V) (u : Value), X.mg x = some u ∧ RelV v u ∧ ∀ M H, Rp B.K M H v d
theorem se_glob {x : Str} {d : D} (hg : Gl X x) (h : Glb X B x d) (hd : (x == ("__debug__" : Str)) = false := by decide) : SE X B W (.Name x pos) (cF d) := by
  obtain ⟨v, u, hm, rv, q⟩ := h.ex
  exact PE.imp (pe_glob hg hm rv hd) fun σ H Q ⟨M, s, r, p⟩ => p.out r (q M H)
theorem se_bltn {x : Str} {n : String} (hg : Gl X x) (hm : X.mg x = none) (hv : bootBuiltins x = some (.type n)) (hn : x ≠ "__name__" := by decide) (hd : (x == ("__debug__" : Str)) = false := by decide) : SE X B W (.Name x pos) (cF (.ty n)) :=
  PE.imp (pe_bltn (v := .ty n) hg hm hv rfl hn hd) fun σ H Q ⟨M, s, r, p⟩ => p.out r (.ty n)

/-! ### operators -/
/-- what an operator asks, and what it gives -/
def Op2 (K : PySem.W.Frag) (r : R2) (o : D → D → Option D) : Prop := ∀ (x y d : D), o x y = some d → ∀ (M : MS) (H : Hp) (v u : V) (Q : VK), MOk M H → Rp K M H v x → Rp K M H u y → (∀ w H', Same H H' → Rp K M H' w d → Q w H') → r v u H Q
def Op1 (K : PySem.W.Frag) (r : V → Hp → VK → Prop) (o : D → Option D) : Prop := ∀ (x d : D), o x = some d → ∀ (M : MS) (H : Hp) (v : V) (Q : VK), MOk M H → Rp K M H v x → (∀ w H', Same H H' → Rp K M H' w d → Q w H') → r v H Q
def OpN (K : PySem.W.Frag) (r : List V → Hp → VK → Prop) (o : List D → Option D) : Prop := ∀ (xs : List D) (d : D), o xs = some d → ∀ (M : MS) (H : Hp) (vs : List V) (Q : VK), MOk M H → RpL K M H vs xs → (∀ w H', Same H H' → Rp K M H' w d → Q w H') → r vs H Q
def toR (o : Option D) (s : List Sl) : R D := match o with
  | some d => .ok d s
  | none => .no
def op2F (o : D → D → Option D) (f g : F D) : F D := fun s => (f s).bind fun x s1 => (g s1).bind fun y s2 => toR (o x y) s2
def op1F (o : D → Option D) (f : F D) : F D := fun s => (f s).bind fun x s1 => toR (o x) s1
theorem two_run {r : R2} {o : D → D → Option D} (hr : Op2 B.K r o) {σ : L2.St} {H : Hp} {Q : VK} (p : tP B W (rhoD B) (op2F o f g) σ H Q) : tOp r (tP B W (rhoD B) f) (tP B W (rhoD B) g) σ H Q := by
  obtain ⟨M, s, r, p⟩ := p
  refine ⟨M, s, r, Post.bind p fun x s1 M1 H1 v r1 q1 ev1 p1 => ⟨M1, s1, r1, Post.bind p1 fun y s2 M2 H2 u r2 q2 ev2 p2 => ?_⟩⟩
  unfold toR at p2
  split at p2
  · rename_i d e
    exact hr x y d e M2 H2 v u Q r2.mo (q1.move r1.mo ev2) q2 fun w H' sm q => p2.grow r2 sm q
  · exact p2.elim
theorem one_run {r : V → Hp → VK → Prop} {o : D → Option D} (hr : Op1 B.K r o) {σ : L2.St} {H : Hp} {Q : VK} (p : tP B W (rhoD B) (op1F o f) σ H Q) : tUn r (tP B W (rhoD B) f) σ H Q := by
  obtain ⟨M, s, r, p⟩ := p
  refine ⟨M, s, r, Post.bind p fun x s1 M1 H1 v r1 q1 ev1 p1 => ?_⟩
  unfold toR at p1
  split at p1
  · rename_i d e
    exact hr x d e M1 H1 v Q r1.mo q1 fun w H' sm q => p1.grow r1 sm q
  · exact p1.elim
theorem se_bin {op : Operator} {r : R2} {o : D → D → Option D} (ho : OpR X (binaryOp op) r) (hr : Op2 B.K r o) (ha : SE X B W a f) (hb : SE X B W b g) : SE X B W (.BinOp a op b pos) (op2F o f g) :=
  PE.imp (pe_op ho ha hb) fun σ H Q p => two_run hr p
theorem se_un {op : UnaryOp} {r : V → Hp → VK → Prop} {o : D → Option D} (ho : UnR X (unaryOp op) r) (hr : Op1 B.K r o) (ha : SE X B W a f) : SE X B W (.UnaryOp op a pos) (op1F o f) :=
  PE.imp (pe_un ho ha) fun σ H Q p => one_run hr p
theorem se_cmp {op : CmpOp} {r : R2} {o : D → D → Option D} (ho : OpR X (compareOp op) r) (hr : Op2 B.K r o) (ha : SE X B W a f) (hb : SE X B W b g) (hm : behindInMarks op b = false := by rfl) : SE X B W (.Compare a [op] [b] pos) (op2F o f g) :=
  PE.imp (pe_cmpR ho ha hb hm) fun σ H Q p => two_run hr p

/-! ### arguments, displays, calls of built-ins -/
def nilF : F (List D) := fun s => .ok [] s
def consF (f : F D) (g : F (List D)) : F (List D) := fun s => (f s).bind fun x s1 => (g s1).bind fun xs s2 => .ok (x :: xs) s2
variable {e : Expr} {es : List Expr} {k : F (List D)}
theorem sa_nil : SA X B W [] nilF := PA.imp pa_nil fun σ H Q ⟨M, s, r, p⟩ => p.out r .nil
theorem sa_cons (ha : SE X B W e f) (hr : SA X B W es k) (hs : starEach (e :: es) X.env = (false, eval e X.env) :: starEach es X.env := by rfl) : SA X B W (e :: es) (consF f k) := by
  refine PA.imp (pa_cons ha hr hs) fun σ H Q ⟨M, s, r, p⟩ => ?_
  exact ⟨M, s, r, Post.bind p fun x s1 M1 H1 v r1 q1 ev1 p1 => ⟨M1, s1, r1, Post.bind p1 fun xs s2 M2 H2 vs r2 q2 ev2 p2 => p2.out r2 (.cons (q1.move r1.mo ev2) q2)⟩⟩
def opnF (o : List D → Option D) (k : F (List D)) : F D := fun s => (k s).bind fun xs s1 => toR (o xs) s1
theorem n_run {r : List V → Hp → VK → Prop} {o : List D → Option D} (hr : OpN B.K r o) {σ : L2.St} {H : Hp} {Q : VK} (p : tP B W (rhoD B) (opnF o k) σ H Q) : tCB r (tP B W (rhoL B) k) σ H Q := by
  obtain ⟨M, s, r, p⟩ := p
  refine ⟨M, s, r, Post.bind p fun xs s1 M1 H1 vs r1 q1 ev1 p1 => ?_⟩
  unfold toR at p1
  split at p1
  · rename_i d e
    exact hr xs d e M1 H1 vs Q r1.mo q1 fun w H' sm q => p1.grow r1 sm q
  · exact p1.elim
theorem se_callB {x : Str} {id : String} {p pos : Pos} {r : List V → Hp → VK → Prop} {o : List D → Option D} (hc : CallR X (.builtin id) r) (hr : OpN B.K r o) (hg : Gl X x) (hm : X.mg x = none) (hv : bootBuiltins x = some (.builtin id)) (ha : SA X B W (e :: es) k) (hn : x ≠ "__name__" := by decide) (hdb : (x == ("__debug__" : Str)) = false := by decide)
    (he : starEach (e :: es) X.env = (false, eval e X.env) :: starEach es X.env := by rfl) (hpl : (backTo pos (starEach es X.env)).any (·.1) = false := by rfl) : SE X B W (.Call (.Name x p) (e :: es) [] pos) (opnF o k) :=
  PE.imp (pe_callB hc hg hm hv ha hn hdb he hpl) fun σ H Q p => n_run hr p
theorem se_callTy {x : Str} {T : String} {p pos : Pos} {r : List V → Hp → VK → Prop} {o : List D → Option D} (hc : CallR X (.type T) r) (hr : OpN B.K r o) (hg : Gl X x) (hm : X.mg x = none) (hv : bootBuiltins x = some (.type T)) (ha : SA X B W (e :: es) k) (hn : x ≠ "__name__" := by decide) (hdb : (x == ("__debug__" : Str)) = false := by decide)
    (he : starEach (e :: es) X.env = (false, eval e X.env) :: starEach es X.env := by rfl) (hpl : (backTo pos (starEach es X.env)).any (·.1) = false := by rfl) : SE X B W (.Call (.Name x p) (e :: es) [] pos) (opnF o k) :=
  PE.imp (pe_callTy hc hg hm hv ha hn hdb he hpl) fun σ H Q p => n_run hr p
def tupF (k : F (List D)) : F D := fun s => (k s).bind fun xs s1 => if xs.length ≤ sizeLine then .ok (.tup xs) s1 else .no
def lstF (k : F (List D)) : F D := fun s => (k s).bind fun xs s1 => if xs.length ≤ sizeLine then .ok (.lst xs) s1 else .no
theorem same_upd {H : Hp} {p : Addr} {o : HO} (h : H p = none) : Same H (upd H p o) := fun b x e => by
  rw [upd_ne (ne_of_none e h)]
  exact e
theorem new_tup {K : PySem.W.Frag} {M : MS} {H : Hp} {p : Addr} {vs : List V} {xs : List D} (m : MOk M H) (h : H p = none) (q : RpL K M H vs xs) : Rp K M (upd H p (.tup vs)) (.ref p) (.tup xs) := .tup upd_same (q.move m (.same (same_upd h)))
theorem new_lst {K : PySem.W.Frag} {M : MS} {H : Hp} {p : Addr} {vs : List V} {xs : List D} (m : MOk M H) (h : H p = none) (q : RpL K M H vs xs) : Rp K M (upd H p (.lst vs)) (.ref p) (.lst xs) := .lst upd_same (m.there h) (q.move m (.same (same_upd h)))
theorem se_tup {x1} (h : SA X B W es k) : SE X B W (.Tuple es x1 pos) (tupF k) := by
  refine PE.imp (pe_tup h) fun σ H Q ⟨M, s, r, p⟩ => ⟨M, s, r, Post.bind p fun xs s1 M1 H1 vs r1 q1 ev1 p1 => ?_⟩
  split at p1
  · rename_i hz
    exact ⟨by rw [q1.length]; exact hz, fun a na => p1.grow r1 (same_upd na) (new_tup r1.mo na q1)⟩
  · exact p1.elim
theorem se_lst (h : SA X B W es k) : SE X B W (.List es pos) (lstF k) := by
  refine PE.imp (pe_lst h) fun σ H Q ⟨M, s, r, p⟩ => ⟨M, s, r, Post.bind p fun xs s1 M1 H1 vs r1 q1 ev1 p1 => ?_⟩
  split at p1
  · rename_i hz
    exact ⟨by rw [q1.length]; exact hz, fun a na => p1.grow r1 (same_upd na) (new_lst r1.mo na q1)⟩
  · exact p1.elim
/-! ### own lists -/
/-- an owned list, in no slot -/
def Owned (B : Bs) (σ : L2.St) (s : List Sl) (M : MS) (H : Hp) (p : Addr) (ds : List D) : Prop :=
  ∃ xs, H p = some (.lst xs) ∧ M p ∧ B.H0 p = none ∧ RpL B.K M H xs ds ∧ B.L p = none ∧ ∀ (j : Nat) (es : MO), s[j]? = some (.ow es) → σ[j]? ≠ some (some (.ref p))
def PostN (B : Bs) (W : WX) (M : MS) (H : Hp) (σ : L2.St) (r : R (List D)) (Q : VK) : Prop :=
  match r with
  | .ok ds s' => ∀ p H' M', SR B M' σ H' s' → Owned B σ s' M' H' p ds → Ev M H M' H' → Q (.ref p) H'
  | .er x s' => ∀ cls od H' M', SR B M' σ H' s' → XR B.K M' H' cls od x → W cls od σ H'
  | .no => False
def tN (B : Bs) (W : WX) (f : F (List D)) : TE := fun σ H Q => ∃ M s, SR B M σ H s ∧ PostN B W M H σ (f s) Q
def SN (X : Cx) (B : Bs) (W : WX) (e : Expr) (f : F (List D)) : Prop := PE X e (tN B W f)
theorem SR.noOw {M : MS} {σ : L2.St} {H : Hp} {s : List Sl} {p : Addr} (r : SR B M σ H s) (e : H p = none) : ∀ (j : Nat) (es : MO), s[j]? = some (.ow es) → σ[j]? ≠ some (some (.ref p)) := fun j es h z => by
  obtain ⟨a, xs, e1, q, _⟩ := r.ow j es h
  rw [z] at e1
  cases e1
  rw [e] at q
  cases q
/-- a list just laid is owned -/
theorem SR.newOwned {M : MS} {σ : L2.St} {H : Hp} {s : List Sl} {p : Addr} {xs : List V} {ds : List D} (r : SR B M σ H s) (e : H p = none) (q : RpL B.K M H xs ds) : SR B (With M p) σ (upd H p (.lst xs)) s ∧ Owned B σ s (With M p) (upd H p (.lst xs)) p ds := by
  have r' := r.laid (xs := xs) e
  have hL : B.L p = none := by
    cases h : B.L p with
    | none => rfl
    | some o =>
      have := (r.lk p o h).2.1
      rw [e] at this
      cases this
  refine ⟨r', xs, upd_same, .inr rfl, ?_, RpL.grow1 e q, hL, r.noOw e⟩
  rcases r'.dn p (.inr rfl) with z | z
  · exact absurd (r.up p z) (r.mo.there e)
  · exact z
theorem PostN.laid {M : MS} {σ : L2.St} {H : Hp} {s : List Sl} {p : Addr} {xs : List V} {ds : List D} {Q : VK} (h : PostN B W M H σ (.ok ds s) Q) (r : SR B M σ H s) (e : H p = none) (q : RpL B.K M H xs ds) : Q (.ref p) (upd H p (.lst xs)) :=
  let ⟨a, b⟩ := r.newOwned e q
  h p _ _ a b ⟨fun c z => z.elim .inl fun z => .inr (z ▸ e), .same (same_upd e)⟩
theorem PostN.later {M M' : MS} {σ : L2.St} {H H' : Hp} {r : R (List D)} {Q : VK} (h : PostN B W M H σ r Q) (ev : Ev M H M' H') : PostN B W M' H' σ r Q := by
  cases r with
  | ok d s' => exact fun v H2 M2 a b c => h v H2 M2 a b (ev.trans c)
  | er x s' => exact h
  | no => exact h
theorem PostN.bind {M : MS} {σ : L2.St} {H : Hp} {rho : RelT β α} {r : R α} {g : α → F (List D)} {Q : VK} {Q1 : β → Hp → Prop} (h : PostN B W M H σ (r.bind g) Q)
    (k : ∀ d s1 M1 H1 x, SR B M1 σ H1 s1 → rho M1 H1 x d → Ev M H M1 H1 → PostN B W M1 H1 σ (g d s1) Q → Q1 x H1) : Post B W rho M H σ r Q1 := by
  cases r with
  | ok d s' => exact fun v H2 M2 a b c => k d s' M2 H2 v a b c (PostN.later h c)
  | er x s' => exact h
  | no => exact h
def lstN (k : F (List D)) : F (List D) := fun s => (k s).bind fun xs s1 => if xs.length ≤ sizeLine then .ok xs s1 else .no
theorem sn_lst (h : SA X B W es k) : SN X B W (.List es pos) (lstN k) := by
  refine PE.imp (pe_lst h) fun σ H Q ⟨M, s, r, p⟩ => ⟨M, s, r, PostN.bind p fun xs s1 M1 H1 vs r1 q1 ev1 p1 => ?_⟩
  split at p1
  · rename_i hz
    exact ⟨by rw [q1.length]; exact hz, fun a na => p1.laid r1 na q1⟩
  · exact p1.elim
/-- a call whose value is a new list -/
def OpW (K : PySem.W.Frag) (r : List V → Hp → VK → Prop) (o : List D → Option (List D)) : Prop := ∀ (xs ds : List D), o xs = some ds → ∀ (M : MS) (H : Hp) (vs : List V) (Q : VK), MOk M H → RpL K M H vs xs → (∀ p ws H', Same H H' → H' p = none → RpL K M H' ws ds → Q (.ref p) (upd H' p (.lst ws))) → r vs H Q
theorem OpW.toN {K : PySem.W.Frag} {r : List V → Hp → VK → Prop} {o : List D → Option (List D)} (h : OpW K r o) : OpN K r fun xs => (o xs).map .lst := fun xs d e M H vs Q m q k => by
  have e : (o xs).map D.lst = some d := e
  cases h1 : o xs with
  | none => rw [h1] at e; cases e
  | some ds =>
    rw [h1] at e
    cases e
    exact h xs ds h1 M H vs Q m q fun p ws H' sm hp hw => k _ _ (fun b o z => (same_upd hp) b o (sm b o z)) (new_lst (m.same sm) hp hw)
def toRL (o : Option (List D)) (s : List Sl) : R (List D) := match o with
  | some d => .ok d s
  | none => .no
def opnN (o : List D → Option (List D)) (k : F (List D)) : F (List D) := fun s => (k s).bind fun xs s1 => toRL (o xs) s1
theorem nN_run {r : List V → Hp → VK → Prop} {o : List D → Option (List D)} (hr : OpW B.K r o) {σ : L2.St} {H : Hp} {Q : VK} (p : tN B W (opnN o k) σ H Q) : tCB r (tP B W (rhoL B) k) σ H Q := by
  obtain ⟨M, s, r, p⟩ := p
  refine ⟨M, s, r, PostN.bind p fun xs s1 M1 H1 vs r1 q1 ev1 p1 => ?_⟩
  unfold toRL at p1
  split at p1
  · rename_i d e
    exact hr xs d e M1 H1 vs Q r1.mo q1 fun p ws H' sm hp hw => (PostN.later p1 (.same sm)).laid (r1.grow sm) hp hw
  · exact p1.elim
theorem sn_callB {x : Str} {id : String} {p pos : Pos} {r : List V → Hp → VK → Prop} {o : List D → Option (List D)} (hc : CallR X (.builtin id) r) (hr : OpW B.K r o) (hg : Gl X x) (hm : X.mg x = none) (hv : bootBuiltins x = some (.builtin id)) (ha : SA X B W (e :: es) k) (hn : x ≠ "__name__" := by decide) (hdb : (x == ("__debug__" : Str)) = false := by decide)
    (he : starEach (e :: es) X.env = (false, eval e X.env) :: starEach es X.env := by rfl) (hpl : (backTo pos (starEach es X.env)).any (·.1) = false := by rfl) : SN X B W (.Call (.Name x p) (e :: es) [] pos) (opnN o k) :=
  PE.imp (pe_callB hc hg hm hv ha hn hdb he hpl) fun σ H Q p => nN_run hr p
theorem sn_callTy {x : Str} {T : String} {p pos : Pos} {r : List V → Hp → VK → Prop} {o : List D → Option (List D)} (hc : CallR X (.type T) r) (hr : OpW B.K r o) (hg : Gl X x) (hm : X.mg x = none) (hv : bootBuiltins x = some (.type T)) (ha : SA X B W (e :: es) k) (hn : x ≠ "__name__" := by decide) (hdb : (x == ("__debug__" : Str)) = false := by decide)
    (he : starEach (e :: es) X.env = (false, eval e X.env) :: starEach es X.env := by rfl) (hpl : (backTo pos (starEach es X.env)).any (·.1) = false := by rfl) : SN X B W (.Call (.Name x p) (e :: es) [] pos) (opnN o k) :=
  PE.imp (pe_callTy hc hg hm hv ha hn hdb he hpl) fun σ H Q p => nN_run hr p

/-! ### tests -/
def tstF (f : F D) : F Bool := fun s => (f s).bind fun x s1 => match x with
  | .bl b => .ok b s1
  | _ => .no
theorem st_val (h : SE X B W e f) (he : ∀ whole, isTrue e X.env whole = (do let v ← whole; standAt e.pos; holding [v] (truthy v)) := by intro _; rfl) : ST X B W e (tstF f) := by
  refine PT.imp (pt_val h he) fun σ H Q ⟨M, s, r, p⟩ => ⟨M, s, r, Post.bind p fun x s1 M1 H1 v r1 q1 ev1 p1 => ?_⟩
  split at p1
  · cases q1
    exact ⟨_, rfl, p1.out r1 rfl⟩
  · exact p1.elim
theorem st_cmp {op : CmpOp} {r : R2} {o : D → D → Option D} (ho : OpR X (compareOp op) r) (hr : Op2 B.K r o) (ha : SE X B W a f) (hb : SE X B W b g) (hm : behindInMarks op b = false := by rfl) : ST X B W (.Compare a [op] [b] pos) (tstF (op2F o f g)) := by
  refine PT.imp (pt_cmpR ho ha hb hm) fun σ H Q ⟨M, s, r, p⟩ => ?_
  have p' : tP B W (rhoD B) (op2F o f g) σ H fun x H1 => ∃ c, x = .bl c ∧ Q c H1 := ⟨M, s, r, Post.bind p fun x s1 M1 H1 v r1 q1 ev1 p1 => by
    split at p1
    · cases q1
      exact ⟨_, rfl, p1.out r1 rfl⟩
    · exact p1.elim⟩
  exact two_run hr p'
def notT (f : F Bool) : F Bool := fun s => (f s).bind fun c s1 => .ok (!c) s1
def andT (f g : F Bool) : F Bool := fun s => (f s).bind fun c s1 => if c = true then g s1 else .ok false s1
def orT (f g : F Bool) : F Bool := fun s => (f s).bind fun c s1 => if c = true then .ok true s1 else g s1
variable {u v : F Bool} {rest : List Expr}
def SW (X : Cx) (B : Bs) (W : WX) (e : Expr) (f : F Bool) : Prop := PW X e (tP B W rhoB f)
theorem PW.imp {e : Expr} {t u : TT} (h : PW X e t) (k : ∀ σ H Q, u σ H Q → t σ H Q) : PW X e u := ⟨fun wh pins s σ H Q I q => h.run wh pins s σ H Q I (k σ H Q q)⟩
theorem SW.st (h : SW X B W e u) : ST X B W e u := PW.pt h
theorem st_not (h : ST X B W a u) : ST X B W (.UnaryOp .Not a pos) (notT u) :=
  PT.imp (pt_not h) fun σ H Q ⟨M, s, r, p⟩ => ⟨M, s, r, Post.bind p fun c s1 M1 H1 b r1 q1 ev1 p1 => p1.out r1 (by rw [q1])⟩
theorem sw_and1 (h : ST X B W a u) : SW X B W (.BoolOp .And [a] pos) u := pw_and1 h
theorem sw_or1 (h : ST X B W a u) : SW X B W (.BoolOp .Or [a] pos) u := pw_or1 h
theorem sw_and (ha : ST X B W a u) (hb : SW X B W (.BoolOp .And (b :: rest) pos) v) : SW X B W (.BoolOp .And (a :: b :: rest) pos) (andT u v) := by
  refine PW.imp (pw_and ha hb) fun σ H Q ⟨M, s, r, p⟩ => ⟨M, s, r, Post.bind p fun c s1 M1 H1 b r1 q1 ev1 p1 => ?_⟩
  have q1 : b = c := q1
  subst q1
  cases b with
  | true => exact ⟨M1, s1, r1, p1⟩
  | false => exact p1.out r1 rfl
theorem sw_or (ha : ST X B W a u) (hb : SW X B W (.BoolOp .Or (b :: rest) pos) v) : SW X B W (.BoolOp .Or (a :: b :: rest) pos) (orT u v) := by
  refine PW.imp (pw_or ha hb) fun σ H Q ⟨M, s, r, p⟩ => ⟨M, s, r, Post.bind p fun c s1 M1 H1 b r1 q1 ev1 p1 => ?_⟩
  have q1 : b = c := q1
  subst q1
  cases b with
  | true => exact p1.out r1 rfl
  | false => exact ⟨M1, s1, r1, p1⟩
/-- .. as values -/
def notF (f : F D) : F D := fun s => (f s).bind fun x s1 => match x with
  | .bl b => .ok (.bl (!b)) s1
  | _ => .no
def andF (f g : F D) : F D := fun s => (f s).bind fun x s1 => match x with
  | .bl true => g s1
  | .bl false => .ok (.bl false) s1
  | _ => .no
def orF (f g : F D) : F D := fun s => (f s).bind fun x s1 => match x with
  | .bl false => g s1
  | .bl true => .ok (.bl true) s1
  | _ => .no
theorem se_one {op} (h : SE X B W a f) : SE X B W (.BoolOp op [a] pos) f := pe_one h
theorem se_not (ha : SE X B W a f) : SE X B W (.UnaryOp .Not a pos) (notF f) := by
  refine PE.imp (pe_not ha) fun σ H Q ⟨M, s, r, p⟩ => ⟨M, s, r, Post.bind p fun x s1 M1 H1 v r1 q1 ev1 p1 => ?_⟩
  split at p1
  · cases q1
    exact ⟨_, rfl, p1.out r1 (.bl _)⟩
  · exact p1.elim
theorem se_and (ha : SE X B W a f) (hb : SE X B W (.BoolOp .And (b :: rest) pos) g) : SE X B W (.BoolOp .And (a :: b :: rest) pos) (andF f g) := by
  refine PE.imp (pe_and ha hb) fun σ H Q ⟨M, s, r, p⟩ => ⟨M, s, r, Post.bind p fun x s1 M1 H1 v r1 q1 ev1 p1 => ?_⟩
  split at p1
  · cases q1
    exact ⟨true, rfl, M1, s1, r1, p1⟩
  · cases q1
    exact ⟨false, rfl, p1.out r1 (.bl _)⟩
  · exact p1.elim
theorem se_or (ha : SE X B W a f) (hb : SE X B W (.BoolOp .Or (b :: rest) pos) g) : SE X B W (.BoolOp .Or (a :: b :: rest) pos) (orF f g) := by
  refine PE.imp (pe_or ha hb) fun σ H Q ⟨M, s, r, p⟩ => ⟨M, s, r, Post.bind p fun x s1 M1 H1 v r1 q1 ev1 p1 => ?_⟩
  split at p1
  · cases q1
    exact ⟨false, rfl, M1, s1, r1, p1⟩
  · cases q1
    exact ⟨true, rfl, p1.out r1 (.bl _)⟩
  · exact p1.elim
def ifF (u : F Bool) (f g : F D) : F D := fun s => (u s).bind fun c s1 => if c = true then f s1 else g s1
theorem se_if (hc : ST X B W c u) (ha : SE X B W a f) (hb : SE X B W b g) : SE X B W (.IfExp c a b pos) (ifF u f g) := by
  refine PE.imp (pe_ifExp hc ha hb) fun σ H Q ⟨M, s, r, p⟩ => ⟨M, s, r, Post.bind p fun c s1 M1 H1 b r1 q1 ev1 p1 => ?_⟩
  have q1 : b = c := q1
  subst q1
  cases b with
  | true => exact ⟨M1, s1, r1, p1⟩
  | false => exact ⟨M1, s1, r1, p1⟩
/-- a chain of two comparisons -/
def chainF (o o' : D → D → Option D) (f g h : F D) : F D := fun s => (f s).bind fun x s1 => (g s1).bind fun y s2 => match o x y with
  | some (.bl true) => (h s2).bind fun z s3 => toR (o' y z) s3
  | some (.bl false) => .ok (.bl false) s2
  | _ => .no
theorem se_chain {op op' : CmpOp} {r r' : R2} {o o' : D → D → Option D} (ho : OpR X (compareOp op) r) (ho' : OpR X (compareOp op') r') (hr : Op2 B.K r o) (hr' : Op2 B.K r' o') (ha : SE X B W a f) (hb : SE X B W b g) (hc : SE X B W c h)
    (hm : lastMarks [op, op'] [b, c] = false := by with_unfolding_all rfl) : SE X B W (.Compare a [op, op'] [b, c] pos) (chainF o o' f g h) := by
  refine PE.imp (pe_chain ho ho' ha hb hc hm) fun σ H Q ⟨M, s, r0, p⟩ => ⟨M, s, r0, Post.bind p fun x s1 M1 H1 v r1 q1 ev1 p1 => ⟨M1, s1, r1, Post.bind p1 fun y s2 M2 H2 u r2 q2 ev2 p2 => ?_⟩⟩
  split at p2
  · rename_i e
    refine hr x y _ e M2 H2 v u _ r2.mo (q1.move r1.mo ev2) q2 fun w H' sm q => ?_
    cases q
    refine ⟨true, rfl, M2, s2, r2.grow sm, Post.bind (Post.later p2 (.same sm)) fun z s3 M3 H3 w3 r3 q3 ev3 p3 => ?_⟩
    unfold toR at p3
    split at p3
    · rename_i d e3
      exact hr' y z d e3 M3 H3 u w3 Q r3.mo ((q2.move r2.mo (.same sm)).move (r2.mo.same sm) ev3) q3 fun w H' sm q => p3.grow r3 sm q
    · exact p3.elim
  · rename_i e
    refine hr x y _ e M2 H2 v u _ r2.mo (q1.move r1.mo ev2) q2 fun w H' sm q => ?_
    cases q
    exact ⟨false, rfl, p2.grow r2 sm (.bl false)⟩
  · exact p2.elim
end
end Fx

set_option Elab.async false
set_option linter.all false
set_option maxRecDepth 100000
namespace Fx
open PySem L2

/-! ### statements -/
inductive Out where
  | nx (s : List Sl) | rt (d : D) (s : List Sl) | rn (ds : List D) (s : List Sl) | bk (s : List Sl) | ct (s : List Sl) | er (x : XD) (s : List Sl) | no
abbrev G := List Sl → Out
def PostS (B : Bs) (W : WX) (M : MS) (H : Hp) (o : Out) (E : Ends) : Prop :=
  match o with
  | .nx s' => ∀ σ' H' M', SR B M' σ' H' s' → Ev M H M' H' → E.nx σ' H'
  | .rt d s' => ∀ v σ' H' M', SR B M' σ' H' s' → Rp B.K M' H' v d → Ev M H M' H' → E.rt v H'
  | .rn ds s' => ∀ p σ' H' M', SR B M' σ' H' s' → Owned B σ' s' M' H' p ds → Ev M H M' H' → E.rt (.ref p) H'
  | .bk s' => ∀ σ' H' M', SR B M' σ' H' s' → Ev M H M' H' → E.bk σ' H'
  | .ct s' => ∀ σ' H' M', SR B M' σ' H' s' → Ev M H M' H' → E.ct σ' H'
  | .er x s' => ∀ cls od σ' H' M', SR B M' σ' H' s' → XR B.K M' H' cls od x → W cls od σ' H'
  | .no => False
def tS (B : Bs) (W : WX) (g : G) : TS := fun E σ H => ∃ M s, SR B M σ H s ∧ PostS B W M H (g s) E
def SS (X : Cx) (B : Bs) (W : WX) (st : Stmt) (g : G) : Prop := PS X st (tS B W g)
def SSs (X : Cx) (B : Bs) (W : WX) (st : List Stmt) (g : G) : Prop := PSs X st (tS B W g)
variable {α β : Type}
def R.out (r : R α) (f : α → List Sl → Out) : Out := match r with
  | .ok a s => f a s
  | .er x s => .er x s
  | .no => .no
@[simp] theorem R.out_ok {a : α} {s : List Sl} {f : α → List Sl → Out} : (R.ok a s).out f = f a s := rfl
@[simp] theorem R.out_er {x : XD} {s : List Sl} {f : α → List Sl → Out} : (R.er x s).out f = .er x s := rfl
@[simp] theorem R.out_no {f : α → List Sl → Out} : (R.no).out f = .no := rfl
section
variable {B : Bs} {W : WX} {M M' : MS} {σ : L2.St} {H H' : Hp} {s : List Sl} {rho : RelT β α}
theorem PostS.later {o : Out} {E : Ends} (h : PostS B W M H o E) (ev : Ev M H M' H') : PostS B W M' H' o E := by
  cases o with
  | nx s' => exact fun a b c d e => h a b c d (ev.trans e)
  | rt d s' => exact fun v a b c d r e => h v a b c d r (ev.trans e)
  | rn d s' => exact fun v a b c d r e => h v a b c d r (ev.trans e)
  | bk s' => exact fun a b c d e => h a b c d (ev.trans e)
  | ct s' => exact fun a b c d e => h a b c d (ev.trans e)
  | er x s' => exact h
  | no => exact h
theorem PostS.bind {r : R α} {g : α → G} {E : Ends} {Q1 : β → Hp → Prop} (h : PostS B W M H (r.out g) E)
    (k : ∀ d s1 M1 H1 x, SR B M1 σ H1 s1 → rho M1 H1 x d → Ev M H M1 H1 → PostS B W M1 H1 (g d s1) E → Q1 x H1) : Post B W rho M H σ r Q1 := by
  cases r with
  | ok d s' => exact fun v H2 M2 a b c => k d s' M2 H2 v a b c (PostS.later h c)
  | er x s' => exact fun cls od H' M' a b => h cls od σ H' M' a b
  | no => exact h
theorem PostS.bindN {r : R (List D)} {g : List D → G} {E : Ends} {Q1 : VK} (h : PostS B W M H (r.out g) E)
    (k : ∀ ds s1 M1 H1 p, SR B M1 σ H1 s1 → Owned B σ s1 M1 H1 p ds → Ev M H M1 H1 → PostS B W M1 H1 (g ds s1) E → Q1 (.ref p) H1) : PostN B W M H σ r Q1 := by
  cases r with
  | ok d s' => exact fun v H2 M2 a b c => k d s' M2 H2 v a b c (PostS.later h c)
  | er x s' => exact fun cls od H' M' a b => h cls od σ H' M' a b
  | no => exact h
end
section
variable {X : Cx} {B : Bs} {W : WX} {st : Stmt} {rest : List Stmt} {g h : G} {e : Expr} {f : F D} {k : F (List D)} {pos : Pos}
def nextG : G := fun s => .nx s
def seqG (g h : G) : G := fun s => match g s with
  | .nx s1 => h s1
  | .rt d s1 => .rt d s1
  | .rn d s1 => .rn d s1
  | .bk s1 => .bk s1
  | .ct s1 => .ct s1
  | .er x s1 => .er x s1
  | .no => .no
theorem ss_nil : SSs X B W [] nextG := PSs.imp pss_nil fun E σ H ⟨M, s, r, p⟩ => p σ H M r .rfl
theorem ss_one (h1 : SS X B W st g) : SSs X B W [st] g := pss_one h1
theorem ss_cons (h1 : SS X B W st g) (h2 : SSs X B W rest h) : SSs X B W (st :: rest) (seqG g h) := by
  refine PSs.imp (pss_cons h1 h2) fun E σ H ⟨M, s, r, p⟩ => ⟨M, s, r, ?_⟩
  unfold seqG at p
  revert p
  cases g s with
  | nx s1 => exact fun p σ' H' M' a b => ⟨M', s1, a, PostS.later p b⟩
  | rt d s1 => exact fun p => p
  | rn d s1 => exact fun p => p
  | bk s1 => exact fun p => p
  | ct s1 => exact fun p => p
  | er x s1 => exact fun p => p
  | no => exact fun p => p
def noG : G := fun _ => .no
theorem ss_never : SS X B W st noG := PS.imp ps_never fun E σ H ⟨M, s, r, p⟩ => p
theorem sss_never : SSs X B W rest noG := PSs.imp pss_never fun E σ H ⟨M, s, r, p⟩ => p
theorem ss_pass : SS X B W (.Pass pos) nextG := PS.imp ps_pass fun E σ H ⟨M, s, r, p⟩ => p σ H M r .rfl
def breakG : G := fun s => .bk s
def contG : G := fun s => .ct s
theorem ss_break : SS X B W (.Break pos) breakG := PS.imp ps_break fun E σ H ⟨M, s, r, p⟩ => p σ H M r .rfl
theorem ss_continue : SS X B W (.Continue pos) contG := PS.imp ps_continue fun E σ H ⟨M, s, r, p⟩ => p σ H M r .rfl
def dropG (f : F D) : G := fun s => (f s).out fun _ s1 => .nx s1
theorem ss_expr (he : SE X B W e f) (hs : swapsWith e none pos.line X.env = pure false := by rfl) : SS X B W (.Expr e pos) (dropG f) :=
  PS.imp (ps_expr he hs) fun E σ H ⟨M, s, r, p⟩ => ⟨M, s, r, PostS.bind p fun d s1 M1 H1 v r1 q1 ev1 p1 => p1 σ H1 M1 r1 .rfl⟩
def retG (f : F D) : G := fun s => (f s).out fun d s1 => .rt d s1
theorem ss_ret (he : SE X B W e f) : SS X B W (.Return (some e) pos) (retG f) :=
  PS.imp (ps_ret he) fun E σ H ⟨M, s, r, p⟩ => ⟨M, s, r, PostS.bind p fun d s1 M1 H1 v r1 q1 ev1 p1 => p1 v σ H1 M1 r1 q1 .rfl⟩
def retNG (k : F (List D)) : G := fun s => (k s).out fun d s1 => .rn d s1
theorem ss_retN (he : SN X B W e k) : SS X B W (.Return (some e) pos) (retNG k) :=
  PS.imp (ps_ret he) fun E σ H ⟨M, s, r, p⟩ => ⟨M, s, r, PostS.bindN p fun d s1 M1 H1 v r1 q1 ev1 p1 => p1 v σ H1 M1 r1 q1 .rfl⟩
def retNonG : G := fun s => .rt .non s
theorem ss_retNone : SS X B W (.Return none pos) retNonG := PS.imp ps_retN fun E σ H ⟨M, s, r, p⟩ => p _ σ H M r .non .rfl
/-- return of a name: a list of one's own is handed on as such -/
def retV (i : Nat) : G := fun s => match s[i]? with
  | some (.va d) => .rt d s
  | some (.ow (.l ds)) => .rn ds (s.set i .un)
  | _ => .no
theorem SR.forget {B : Bs} {M : MS} {σ : L2.St} {H : Hp} {s : List Sl} {i : Nat} (r : SR B M σ H s) (hi : ∀ ds : MO, s[i]? ≠ some (.io ds)) : SR B M σ H (s.set i .un) where
  va := fun j d h1 => by
    rcases nth_set h1 with ⟨rfl, e1⟩ | ⟨n, h2⟩
    · cases e1
    · exact r.va j d h2
  ow := fun j d h1 => by
    rcases nth_set h1 with ⟨rfl, e1⟩ | ⟨n, h2⟩
    · cases e1
    · exact r.ow j d h2
  io := fun j d h1 => by
    rcases nth_set h1 with ⟨rfl, e1⟩ | ⟨n, h2⟩
    · cases e1
    · exact r.io j d h2
  pa := fun a ha => by
    obtain ⟨h1, ds, h2⟩ := r.pa a ha
    refine ⟨h1, ds, ?_⟩
    have ei : i ≠ 0 := fun z => hi ds (by rw [z]; exact h2)
    rw [List.getElem?_set_ne ei]
    exact h2
  ne := fun j k ds es a n h1 h2 h3 h4 => by
    rcases nth_set h1 with ⟨rfl, e1⟩ | ⟨_, h1⟩
    · cases e1
    · rcases nth_set h2 with ⟨rfl, e1⟩ | ⟨_, h2⟩
      · cases e1
      · exact r.ne j k ds es a n h1 h2 h3 h4
  mo := r.mo
  up := r.up
  dn := r.dn
  st := r.st
  bm := r.bm
  lk := fun b o e => by
    obtain ⟨h1, h2, h3⟩ := r.lk b o e
    refine ⟨h1, h2, fun z => ?_⟩
    rcases z.of_set2 with z | ⟨⟨ds, z | z⟩, _⟩
    · exact h3 z
    · cases z
    · cases z
  len := by rw [List.length_set]; exact r.len
theorem ss_retV (i : Nat) {x : Str} {p' : Pos} (hN : X.N[i]? = some x := by rfl) (hv : Vis X.env.scope x := by first | exact Or.inl rfl | exact Or.inr (Or.inl rfl) | exact Or.inr (Or.inr rfl)) (hd : (x == ("__debug__" : Str)) = false := by decide)
    (hcd : (x == ("__classdict__" : Str)) = false := by decide) : SS X B W (.Return (some (.Name x p')) pos) (retV i) := by
  refine PS.imp (ps_ret (pe_var hN hv hd hcd)) fun E σ H ⟨M, s, r, p⟩ => ?_
  unfold retV at p
  split at p
  · rename_i d e
    obtain ⟨v, e1, q⟩ := r.va i d e
    exact ⟨v, e1, p v σ H M r q .rfl⟩
  · rename_i ds e
    obtain ⟨a, xs, e1, q, m, n, l⟩ := r.ow i _ e
    cases l with
    | l l =>
    have hL : B.L a = none := by
      cases h : B.L a with
      | none => rfl
      | some o => exact absurd ⟨i, _, .inl e, e1⟩ (r.lk a o h).2.2
    refine ⟨_, e1, p a σ H M (r.forget fun ds z => by rw [e] at z; cases z) ⟨_, q, m, n, l, hL, fun j es h z => ?_⟩ .rfl⟩
    rcases nth_set h with ⟨rfl, e1'⟩ | ⟨hj, h2⟩
    · cases e1'
    · exact r.ne i j _ es a hj e h2 e1 z
  · exact p.elim
def ifG (u : F Bool) (g h : G) : G := fun s => (u s).out fun b s1 => if b = true then g s1 else h s1
theorem ss_if {c : Expr} {a b : List Stmt} {u : F Bool} (hc : ST X B W c u) (ha : SSs X B W a g) (hb : SSs X B W b h) : SS X B W (.If c a b pos) (ifG u g h) := by
  refine PS.imp (ps_if hc ha hb) fun E σ H ⟨M, s, r, p⟩ => ⟨M, s, r, PostS.bind p fun d s1 M1 H1 v r1 q1 ev1 p1 => ?_⟩
  have q1 : v = d := q1
  subst q1
  cases v with
  | true => exact ⟨M1, s1, r1, p1⟩
  | false => exact ⟨M1, s1, r1, p1⟩

/-! ### targets -/
def okSl (s : List Sl) (i : Nat) : Bool := match s[i]? with
  | some (.io _) => false
  | some _ => true
  | none => false
theorem okSl.io {s : List Sl} {i : Nat} (h : okSl s i = true) : ∀ ds : MO, s[i]? ≠ some (.io ds) := fun ds z => by
  unfold okSl at h
  rw [z] at h
  cases h
theorem okSl.lt {s : List Sl} {i : Nat} (h : okSl s i = true) : i < s.length := by
  unfold okSl at h
  cases e : s[i]? with
  | none => rw [e] at h; cases h
  | some x => exact (List.getElem?_eq_some_iff.mp e).1
abbrev AS := D → List Sl → Option (List Sl)
def setA (i : Nat) : AS := fun d s => if okSl s i = true then some (s.set i (.va d)) else none
/-- all slots but ks are as they were -/
def Out1 (ks : List Nat) (σ σ' : L2.St) : Prop := σ'.length = σ.length ∧ ∀ i, i ∉ ks → σ'[i]? = σ[i]?
def tA (B : Bs) (ks : List Nat) (a : AS) : TG := fun v σ H Q => ∃ M s d, SR B M σ H s ∧ Rp B.K M H v d ∧ match a d s with
  | some s' => ∀ σ' H' M', SR B M' σ' H' s' → Ev M H M' H' → Out1 ks σ σ' → Q σ' H'
  | none => False
def SG (X : Cx) (B : Bs) (ks : List Nat) (tg : Expr) (a : AS) : Prop := PG X tg (tA B ks a)
theorem sg_name {i : Nat} {x : Str} (hN : X.N.Nodup) (hi : X.N[i]? = some x) (hx : Loc X.env.scope x) (hf : X.fn x = true ∨ X.env.scope.names.lookup x = some .local := by first | exact .inl rfl | exact .inr rfl | assumption) : SG X B [i] (.Name x pos) (setA i) := by
  refine PG.imp (pg_name hN hi hx hf) fun v σ H Q ⟨M, s, d, r, q, p⟩ => ?_
  unfold setA at p
  split at p
  · rename_i s' e
    split at e
    · rename_i h
      cases e
      exact p _ H M (r.put q (okSl.io h) (okSl.lt h)) .rfl ⟨List.length_set .., fun j hj => List.getElem?_set_ne fun z => hj (by simp [z])⟩
    · cases e
  · exact p.elim
abbrev ASs := List D → List Sl → Option (List Sl)
def tAs (B : Bs) (ks : List Nat) (a : ASs) : TGs := fun vs σ H Q => ∃ M s ds, SR B M σ H s ∧ RpL B.K M H vs ds ∧ match a ds s with
  | some s' => ∀ σ' H' M', SR B M' σ' H' s' → Ev M H M' H' → Out1 ks σ σ' → Q σ' H'
  | none => False
def SGs (X : Cx) (B : Bs) (ks : List Nat) (tg : List Expr) (a : ASs) : Prop := PGs X tg (tAs B ks a)
theorem PGs.imp {es : List Expr} {t u : TGs} (h : PGs X es t) (k : ∀ v σ H Q, u v σ H Q → t v σ H Q) : PGs X es u := ⟨fun pins s σ H vs us Q I r q => h.run pins s σ H vs us Q I r (k vs σ H Q q)⟩
def nilA : ASs := fun ds s => match ds with
  | [] => some s
  | _ => none
def consA (a : AS) (b : ASs) : ASs := fun ds s => match ds with
  | d :: ds => (a d s).bind fun s1 => b ds s1
  | [] => none
theorem sgs_nil : SGs X B [] [] nilA := PGs.imp pgs_nil fun vs σ H Q ⟨M, s, ds, r, q, p⟩ => by
  cases q with
  | nil => exact ⟨rfl, p σ H M r .rfl ⟨rfl, fun _ _ => rfl⟩⟩
  | cons _ _ => exact p.elim
theorem sgs_cons {es : List Expr} {ks ls : List Nat} {a : AS} {b : ASs} (h1 : SG X B ks e a) (h2 : SGs X B ls es b) (hs : (assignEach (e :: es) X.env).map (·.2) = assign e X.env :: (assignEach es X.env).map (·.2) := by rfl) : SGs X B (ks ++ ls) (e :: es) (consA a b) :=
  PGs.imp (pgs_cons h1 h2 hs) fun vs σ H Q ⟨M, s, ds, r, q, p⟩ => by
    cases q with
    | nil => exact p.elim
    | @cons v vs d ds q qs =>
      refine ⟨v, vs, rfl, M, s, d, r, q, ?_⟩
      unfold consA at p
      dsimp only at p
      cases h : a d s with
      | none => rw [h] at p; exact p
      | some s1 =>
        rw [h] at p
        intro σ' H' M' r' ev o1
        refine ⟨M', s1, ds, r', qs.move r.mo ev, ?_⟩
        dsimp only [Option.bind] at p
        revert p
        cases b ds s1 with
        | none => exact fun p => p
        | some s2 => exact fun p σ2 H2 M2 r2 ev2 o2 => p σ2 H2 M2 r2 (ev.trans ev2) ⟨o2.1.trans o1.1, fun i hi => by
          rw [List.mem_append, not_or] at hi
          exact (o2.2 i hi.2).trans (o1.2 i hi.1)⟩
def seqA (n : Nat) (b : ASs) : AS := fun d s => match d with
  | .tup ds => if ds.length = n then b ds s else none
  | .lst ds => if ds.length = n then b ds s else none
  | _ => none
theorem PG.or {tg : Expr} {t u : TG} (h1 : PG X tg t) (h2 : PG X tg u) : PG X tg (fun v σ H Q => t v σ H Q ∨ u v σ H Q) := ⟨fun pins s σ H v w Q I r q => q.elim (h1.run pins s σ H v w Q I r) (h2.run pins s σ H v w Q I r)⟩
theorem Rp.seq {K : PySem.W.Frag} {M : MS} {H : Hp} {v : V} {ds : List D} (h : Rp K M H v (.lst ds)) : ∃ a xs, v = .ref a ∧ SqL K H a xs ∧ RpL K M H xs ds := by
  cases h with
  | lst h n l => exact ⟨_, _, rfl, .of h, l⟩
theorem Rp.seqT {K : PySem.W.Frag} {M : MS} {H : Hp} {v : V} {ds : List D} (h : Rp K M H v (.tup ds)) : ∃ a xs, v = .ref a ∧ SqT K H a xs ∧ RpL K M H xs ds := by
  cases h with
  | tup h l => exact ⟨_, _, rfl, .of h, l⟩
  | tupK h l => exact ⟨_, _, rfl, h.sq H, l⟩
theorem sg_tup {es : List Expr} {ks : List Nat} {kk : Nat} {b : ASs} {n : Nat} (hc : X.calm = true) (hK : X.K = B.K) (h : SGs X B ks es b) (hn : (assignEach es X.env).length = n := by rfl) (hst : (assignEach es X.env).findIdx? (·.1) = none := by rfl) : SG X B ks (.Tuple es kk pos) (seqA n b) := by
  refine PG.imp (PG.or (pg_tup hc h hn hst) (pg_lst hc h hn hst)) fun v σ H Q ⟨M, s, d, r, q, p⟩ => ?_
  unfold seqA at p
  split at p
  · rename_i s' e
    split at e
    · split at e
      · rename_i ds hl
        obtain ⟨a, xs, rfl, hq, hx⟩ := q.seqT
        exact .inl ⟨a, xs, rfl, hK ▸ hq, hx.length.trans hl, M, s, ds, r, hx, by rw [e]; exact p⟩
      · cases e
    · split at e
      · rename_i ds hl
        obtain ⟨a, xs, rfl, hq, hx⟩ := q.seq
        exact .inr ⟨a, xs, rfl, hK ▸ hq, hx.length.trans hl, M, s, ds, r, hx, by rw [e]; exact p⟩
      · cases e
    · cases e
  · exact p.elim
def asgG (f : F D) (a : AS) : G := fun s => (f s).out fun d s1 => match a d s1 with
  | some s2 => .nx s2
  | none => .no
theorem ss_asg {tg : Expr} {ks : List Nat} {a : AS} (he : SE X B W e f) (hg : SG X B ks tg a) (hs : swapsWithSole [tg] e pos.line X.env = pure false := by rfl) (hw : swappedStores [tg] e X.env = pure none := by rfl)
    (h1 : (assignEach [tg] X.env).map (·.2) = [assign tg X.env] := by rfl) : SS X B W (.Assign [tg] e pos) (asgG f a) :=
  PS.imp (ps_asg he hg hs hw h1) fun E σ H ⟨M, s, r, p⟩ => ⟨M, s, r, PostS.bind p fun d s1 M1 H1 v r1 q1 ev1 p1 => ⟨M1, s1, d, r1, q1, by
    revert p1
    cases a d s1 with
    | none => exact fun p => p
    | some s2 => exact fun p σ' H' M' a b _ => p σ' H' M' a b⟩⟩
theorem ss_set {i : Nat} {x : Str} {pos' : Pos} (hN : X.N.Nodup) (hi : X.N[i]? = some x) (hx : Loc X.env.scope x) (he : SE X B W e f) (hs : swapsWith e (some (.Name x pos')) pos.line X.env = pure false := by rfl) (hf : X.fn x = true ∨ X.env.scope.names.lookup x = some .local := by first | exact .inl rfl | exact .inr rfl | assumption) :
    SS X B W (.Assign [.Name x pos'] e pos) (asgG f (setA i)) :=
  PS.imp (L2.ps_set hN hi hx he hs hf) fun E σ H ⟨M, s, r, p⟩ => ⟨M, s, r, PostS.bind p fun d s1 M1 H1 v r1 q1 ev1 p1 => by
    unfold setA at p1
    split at p1
    · rename_i s2 e
      split at e
      · rename_i h
        cases e
        exact p1 _ H1 M1 (r1.put q1 (okSl.io h) (okSl.lt h)) .rfl
      · cases e
    · exact p1.elim⟩
/-- name = a new list: the name's own -/
def setNG (i : Nat) (k : F (List D)) : G := fun s => (k s).out fun ds s1 => if okSl s1 i = true then .nx (s1.set i (.ow (.l ds))) else .no
theorem setN_run {i : Nat} {E : Ends} {σ : L2.St} {M1 : MS} {H1 : Hp} {s1 : List Sl} {ds : List D} {p : Addr} (r1 : SR B M1 σ H1 s1) (q1 : Owned B σ s1 M1 H1 p ds) (p1 : PostS B W M1 H1 (if okSl s1 i = true then .nx (s1.set i (.ow (.l ds))) else .no) E) : E.nx (σ.set i (some (.ref p))) H1 := by
  split at p1
  · rename_i h
    obtain ⟨xs, h1, h2, h3, h4, hL, h5⟩ := q1
    exact p1 _ H1 M1 (r1.putOw h1 h2 h3 (.l h4) h5 hL (okSl.io h) (okSl.lt h)) .rfl
  · exact p1.elim
theorem ss_setN {i : Nat} {x : Str} {pos' : Pos} (hN : X.N.Nodup) (hi : X.N[i]? = some x) (hx : Loc X.env.scope x) (he : SN X B W e k) (hs : swapsWith e (some (.Name x pos')) pos.line X.env = pure false := by rfl) (hf : X.fn x = true ∨ X.env.scope.names.lookup x = some .local := by first | exact .inl rfl | exact .inr rfl | assumption) :
    SS X B W (.Assign [.Name x pos'] e pos) (setNG i k) :=
  PS.imp (L2.ps_set hN hi hx he hs hf) fun E σ H ⟨M, s, r, p⟩ => ⟨M, s, r, PostS.bindN p fun d s1 M1 H1 v r1 q1 ev1 p1 => setN_run r1 q1 p1⟩
/-- name op= e -/
def augG (i : Nat) (o : D → D → Option D) (f : F D) : G := fun s => match s[i]? with
  | some (.va x) => (f s).out fun y s1 => match o x y with
    | some z => if okSl s1 i = true then .nx (s1.set i (.va z)) else .no
    | none => .no
  | _ => .no
theorem ss_aug {i : Nat} {x : Str} {op : Operator} {r : R2} {o : D → D → Option D} {pos' : Pos} (hN : X.N.Nodup) (hi : X.N[i]? = some x) (hx : Loc X.env.scope x) (ho : OpR X (inplaceOp op) r) (hr : Op2 B.K r o) (he : SE X B W e f) (hf : X.fn x = true ∨ X.env.scope.names.lookup x = some .local := by first | exact .inl rfl | exact .inr rfl | assumption) :
    SS X B W (.AugAssign (.Name x pos') op e pos) (augG i o f) :=
  PS.imp (L2.ps_aug hN hi hx he (ti := r) ho hf) fun E σ H ⟨M, s, r0, p⟩ => by
    unfold augG at p
    split at p
    · rename_i d e1
      obtain ⟨v, h1, q⟩ := r0.va i d e1
      refine ⟨v, h1, M, s, r0, PostS.bind p fun y s1 M1 H1 u r1 q1 ev1 p1 => ?_⟩
      split at p1
      · rename_i z e2
        refine hr d y z e2 M1 H1 v u _ r1.mo (q.move r0.mo ev1) q1 fun w H' sm qz => ?_
        split at p1
        · rename_i h
          exact p1 _ H' M1 ((r1.grow sm).put qz (okSl.io h) (okSl.lt h)) (.same sm)
        · exact p1.elim
      · exact p1.elim
    · exact p.elim
/-! ### lists of one's own: read, changed -/
def ownAt (s : List Sl) (i : Nat) : Option (List D) := match s[i]? with
  | some (.va (.lst ds)) => some ds
  | some (.ow (.l ds)) => some ds
  | some (.io (.l ds)) => some ds
  | _ => none
theorem ownAt.run {B : Bs} {M : MS} {σ : L2.St} {H : Hp} {s : List Sl} {i : Nat} {ds : List D} (r : SR B M σ H s) (h : ownAt s i = some ds) : ∃ a xs, σ[i]? = some (some (.ref a)) ∧ SqL B.K H a xs ∧ RpL B.K M H xs ds := by
  unfold ownAt at h
  split at h
  · rename_i es e
    cases h
    obtain ⟨v, e1, q⟩ := r.va i _ e
    obtain ⟨a, xs, rfl, hq, hx⟩ := q.seq
    exact ⟨a, xs, e1, hq, hx⟩
  · rename_i es e
    cases h
    obtain ⟨a, xs, e1, q, m, n, l⟩ := r.ow i _ e
    cases l with
    | l l => exact ⟨a, _, e1, .of q, l⟩
  · rename_i es e
    cases h
    obtain ⟨z, a, xs, p, e1, q, m, l⟩ := r.io i _ e
    cases l with
    | l l => exact ⟨a, _, z ▸ e1, .of q, l⟩
  · cases h
/-- store a changed object at a slot of one's own -/
def ownPutM (s : List Sl) (i : Nat) (m : MO) : Option (MO × List Sl) := match s[i]? with
  | some (.ow k) => some (k, s.set i (.ow m))
  | some (.io k) => some (k, s.set i (.io m))
  | _ => none
theorem ownPutM.run {B : Bs} {M : MS} {σ : L2.St} {H : Hp} {s s' : List Sl} {i : Nat} {m k : MO} (r : SR B M σ H s) (h : ownPutM s i m = some (k, s')) :
    ∃ a o, σ[i]? = some (some (.ref a)) ∧ H a = some o ∧ M a ∧ MR B.K M H o k ∧ ∀ H' o', Step (fun b => b = a) H H' → H' a = some o' → MR B.K M H' o' m → SR B M σ H' s' ∧ Ev M H M H' := by
  unfold ownPutM at h
  split at h
  · rename_i es e
    cases h
    obtain ⟨a, xs, e1, q, m, n, l⟩ := r.ow i _ e
    exact ⟨a, xs, e1, q, m, l, fun H' ys st ha hx => r.mutated (io := false) e e1 ha hx st⟩
  · rename_i es e
    cases h
    obtain ⟨z, a, xs, p, e1, q, m, l⟩ := r.io i _ e
    subst z
    exact ⟨a, xs, e1, q, m, l, fun H' ys st ha hx => r.mutated (io := true) e e1 ha hx st⟩
  · cases h
/-- store a changed list at a slot of one's own -/
def ownPut (s : List Sl) (i : Nat) (ds : List D) : Option (List Sl) := match s[i]? with
  | some (.ow (.l _)) => some (s.set i (.ow (.l ds)))
  | some (.io (.l _)) => some (s.set i (.io (.l ds)))
  | _ => none
theorem ownPut.run {B : Bs} {M : MS} {σ : L2.St} {H : Hp} {s s' : List Sl} {i : Nat} {ds : List D} (r : SR B M σ H s) (h : ownPut s i ds = some s') :
    ∃ a xs, ∃ es : List D, ownAt s i = some es ∧ σ[i]? = some (some (.ref a)) ∧ H a = some (.lst xs) ∧ M a ∧ RpL B.K M H xs es ∧ ∀ H' ys, Step (fun b => b = a) H H' → H' a = some (.lst ys) → RpL B.K M H' ys ds → SR B M σ H' s' ∧ Ev M H M H' := by
  unfold ownPut at h
  split at h
  · rename_i es e
    cases h
    obtain ⟨a, xs, e1, q, m, n, l⟩ := r.ow i _ e
    cases l with
    | l l => exact ⟨a, _, es, by unfold ownAt; rw [e], e1, q, m, l, fun H' ys st ha hx => r.mutated (io := false) e e1 ha (.l hx) st⟩
  · rename_i es e
    cases h
    obtain ⟨z, a, xs, p, e1, q, m, l⟩ := r.io i _ e
    subst z
    cases l with
    | l l => exact ⟨a, _, es, by unfold ownAt; rw [e], e1, q, m, l, fun H' ys st ha hx => r.mutated (io := true) e e1 ha (.l hx) st⟩
  · cases h
theorem step_upd {H : Hp} {a : Addr} {o : HO} : Step (fun b => b = a) H (upd H a o) := fun b u e n => by
  rw [upd_ne n]
  exact e
theorem ownPut.upd {B : Bs} {M : MS} {σ : L2.St} {H : Hp} {s s' : List Sl} {i : Nat} {ds : List D} {a : Addr} {ys : List V} (r : SR B M σ H s) (h : ownPut s i ds = some s') (hs : σ[i]? = some (some (.ref a))) (hx : RpL B.K M H ys ds) : SR B M σ (upd H a (.lst ys)) s' ∧ Ev M H M (upd H a (.lst ys)) := by
  obtain ⟨a', xs', es, _, e1, q, m, l, k⟩ := ownPut.run r h
  rw [hs] at e1
  cases e1
  exact k _ ys step_upd upd_same (hx.move r.mo ⟨fun _ z => .inl z, fun b o e n => by rw [upd_ne fun z => n (by rw [z]; exact m)]; exact e⟩)
end
end Fx

set_option Elab.async false
set_option linter.all false
set_option maxRecDepth 100000
namespace Fx
open PySem L2
section
variable {X : Cx} {B : Bs} {W : WX} {e : Expr} {es : List Expr} {f g : F D} {k kk : F (List D)} {pos : Pos}

/-! ### own[i], len(own), own.append(e), own[i] = e, own.pop(..) -/
def atD (ds : List D) (i : Int) : Option D := (ixN ds.length i).bind fun j => ds[j]?
theorem atD.run {K : PySem.W.Frag} {M : MS} {H : Hp} {xs : List V} {ds : List D} {i : Int} {d : D} (q : RpL K M H xs ds) (h : atD ds i = some d) : ∃ v, atI xs i = some v ∧ Rp K M H v d := by
  unfold atD at h
  unfold atI
  rw [q.length]
  cases e : ixN ds.length i with
  | none => rw [e] at h; cases h
  | some j =>
    rw [e] at h
    exact q.get h
def ixOwnF (i : Nat) (g : F D) : F D := fun s => match ownAt s i with
  | none => .no
  | some _ => (g s).bind fun y s1 => match y, ownAt s1 i with
    | .int j, some ds => toR (atD ds j) s1
    | _, _ => .no
theorem se_ixOwn (i : Nat) {x : Str} {p' : Pos} (hK : X.K = B.K) (hg : SE X B W e g) (hN : X.N[i]? = some x := by rfl) (hv : Vis X.env.scope x := by first | exact Or.inl rfl | exact Or.inr (Or.inl rfl) | exact Or.inr (Or.inr rfl))
    (hs : PlainIx e := by exact fun _ _ => rfl) (hd : (x == ("__debug__" : Str)) = false := by decide) (hcd : (x == ("__classdict__" : Str)) = false := by decide) : SE X B W (.Subscript (.Name x p') e pos) (ixOwnF i g) := by
  refine PE.imp (pe_ix ix_list (pe_var hN hv hd hcd) hg hs) fun σ H Q ⟨M, s, r, p⟩ => ?_
  unfold ixOwnF at p
  split at p
  · exact p.elim
  · rename_i es0 e0
    obtain ⟨a, xs0, e1, _, _⟩ := ownAt.run r e0
    refine ⟨_, e1, M, s, r, Post.bind p fun y s1 M1 H1 u r1 q1 ev1 p1 => ?_⟩
    split at p1
    · rename_i j ds e2
      cases q1
      obtain ⟨a2, xs, e3, hq, hx⟩ := ownAt.run r1 e2
      rw [e1] at e3
      cases e3
      unfold toR at p1
      split at p1
      · rename_i d e4
        obtain ⟨w, hw, qw⟩ := atD.run hx e4
        exact ⟨a, xs, j, w, rfl, rfl, hK ▸ hq, hw, p1.out r1 qw⟩
      · exact p1.elim
    · exact p1.elim
def lenOwnF (i : Nat) : F D := fun s => match ownAt s i with
  | some ds => .ok (.int ds.length) s
  | none => .no
theorem se_lenOwn (i : Nat) {x : Str} {p' p'' : Pos} (hK : X.K = B.K) (hg : Gl X "len") (hm : X.mg "len" = none) (hN : X.N[i]? = some x := by rfl) (hv : Vis X.env.scope x := by first | exact Or.inl rfl | exact Or.inr (Or.inl rfl) | exact Or.inr (Or.inr rfl))
    (hd : (x == ("__debug__" : Str)) = false := by decide) (hcd : (x == ("__classdict__" : Str)) = false := by decide) : SE X B W (.Call (.Name "len" p') [.Name x p''] [] pos) (lenOwnF i) := by
  refine PE.imp (pe_callB call_len_seq hg hm PySem.boot_len (pa_cons (pe_var hN hv hd hcd) pa_nil)) fun σ H Q ⟨M, s, r, p⟩ => ?_
  unfold lenOwnF at p
  split at p
  · rename_i ds e0
    obtain ⟨a, xs, e1, hq, hx⟩ := ownAt.run r e0
    refine ⟨_, e1, a, xs, rfl, .inl (hK ▸ hq), ?_⟩
    rw [hx.length]
    exact p.out r (.int _)
  · exact p.elim
/-- own.append(e) as a statement -/
def appG (i : Nat) (f : F D) : G := fun s => match ownAt s i with
  | none => .no
  | some _ => (f s).out fun y s1 => match ownAt s1 i with
    | some ds => if ds.length < sizeLine then match ownPut s1 i (ds ++ [y]) with
      | some s2 => .nx s2
      | none => .no
      else .no
    | none => .no
theorem ss_app (i : Nat) {st : Stmt} (hK : X.K = B.K) (h : PS X st (tDrop (tBM X.K "list" rAppend (tVar i) (tCons (tP B W (rhoD B) f) tNil)))) : SS X B W st (appG i f) := by
  refine PS.imp h fun E σ H ⟨M, s, r, p⟩ => ?_
  unfold appG at p
  split at p
  · exact p.elim
  · rename_i es0 e0
    obtain ⟨a, xs0, e1, hq0, _⟩ := ownAt.run r e0
    refine ⟨_, e1, .inl ⟨rfl, xs0, hK ▸ hq0⟩, M, s, r, PostS.bind p fun y s1 M1 H1 u r1 q1 ev1 p1 => ?_⟩
    split at p1
    · rename_i ds e2
      split at p1
      · rename_i hz
        split at p1
        · rename_i s2 e4
          obtain ⟨a2, xs, es2, e5, e6, h7, h8, h9, _⟩ := ownPut.run r1 e4
          rw [e2] at e5
          cases e5
          rw [e1] at e6
          cases e6
          obtain ⟨r2, ev2⟩ := ownPut.upd r1 e4 e1 (h9.snoc q1)
          exact ⟨a, xs, u, rfl, rfl, h7, by rw [h9.length]; exact hz, p1 σ _ M1 r2 ev2⟩
        · exact p1.elim
      · exact p1.elim
    · exact p1.elim
/-- own[i] = e -/
def setIxG (i : Nat) (g : F D) (f : F D) : G := fun s => (f s).out fun y s1 => match ownAt s1 i with
  | none => .no
  | some _ => (g s1).out fun j s2 => match j, ownAt s2 i with
    | .int j, some ds => match ixN ds.length j with
      | some n => match ownPut s2 i (ds.set n y) with
        | some s3 => .nx s3
        | none => .no
      | none => .no
    | _, _ => .no
theorem ss_setIx (i : Nat) {x : Str} {e' : Expr} {p' tpos : Pos} (hK : X.K = B.K) (hg : SE X B W e' g) (he : SE X B W e f) (hN : X.N[i]? = some x := by rfl) (hv : Vis X.env.scope x := by first | exact Or.inl rfl | exact Or.inr (Or.inl rfl) | exact Or.inr (Or.inr rfl))
    (hd : (x == ("__debug__" : Str)) = false := by decide) (hcd : (x == ("__classdict__" : Str)) = false := by decide)
    (ha : ∀ v, assign (.Subscript (.Name x p') e' tpos) X.env v = (do
      let ov ← holding [v] (eval (.Name x p') X.env)
      let iv ← holding [v, ov] (eval e' X.env)
      standAt tpos
      holding [v, ov, iv] (setItem ov iv v)
      release [v, ov, iv] []) := by intro _; rfl)
    (hs : swapsWithSole [.Subscript (.Name x p') e' tpos] e pos.line X.env = pure false := by rfl) (hw : swappedStores [.Subscript (.Name x p') e' tpos] e X.env = pure none := by rfl)
    (h1 : (assignEach [.Subscript (.Name x p') e' tpos] X.env).map (·.2) = [assign (.Subscript (.Name x p') e' tpos) X.env] := by rfl) : SS X B W (.Assign [.Subscript (.Name x p') e' tpos] e pos) (setIxG i g f) := by
  refine PS.imp (ps_asg he (pg_sub (pe_var hN hv hd hcd) hg set_list ha) hs hw h1) fun E σ H ⟨M, s, r, p⟩ => ⟨M, s, r, PostS.bind p fun y s1 M1 H1 u r1 q1 ev1 p1 => ?_⟩
  split at p1
  · exact p1.elim
  · rename_i es0 e0
    obtain ⟨a, xs0, e1, hq0, _⟩ := ownAt.run r1 e0
    refine ⟨_, e1, M1, s1, r1, PostS.bind p1 fun j s2 M2 H2 w r2 q2 ev2 p2 => ?_⟩
    split at p2
    · rename_i j ds e2
      cases q2
      split at p2
      · rename_i n en
        split at p2
        · rename_i s3 e4
          obtain ⟨a2, xs, es2, e5, e6, h7, h8, h9, _⟩ := ownPut.run r2 e4
          rw [e2] at e5
          cases e5
          rw [e1] at e6
          cases e6
          obtain ⟨r3, ev3⟩ := ownPut.upd r2 e4 e1 (RpL.set (q1.move r1.mo ev2) n h9)
          exact ⟨a, xs, j, n, rfl, rfl, h7, by rw [h9.length]; exact en, p2 σ _ M2 r3 ev3⟩
        · exact p2.elim
      · exact p2.elim
    · exact p2.elim
/-- own.pop(e) -/
def popF (i : Nat) (g : F D) : F D := fun s => match ownAt s i with
  | none => .no
  | some _ => (g s).bind fun y s1 => match y, ownAt s1 i with
    | .int j, some ds => if -(2 ^ 63) ≤ j ∧ j < 2 ^ 63 then match seqIndex? j ds.length with
      | some n => match ds[n]?, ownPut s1 i (ds.eraseIdx n) with
        | some d, some s2 => .ok d s2
        | _, _ => .no
      | none => .no
      else .no
    | _, _ => .no
theorem RpL.erase {K : PySem.W.Frag} {M : MS} {H : Hp} : ∀ {vs : List V} {ds : List D} (i : Nat), RpL K M H vs ds → RpL K M H (vs.eraseIdx i) (ds.eraseIdx i)
  | _, _, _, .nil => by simpa using RpL.nil
  | _, _, 0, .cons _ t => t
  | _, _, i + 1, .cons q t => .cons q (RpL.erase i t)
theorem se_pop (i : Nat) {e0 : Expr} (hK : X.K = B.K) (h : PE X e0 (tBM X.K "list" rPopAt (tVar i) (tCons (tP B W (rhoD B) g) tNil))) : SE X B W e0 (popF i g) := by
  refine PE.imp h fun σ H Q ⟨M, s, r, p⟩ => ?_
  unfold popF at p
  split at p
  · exact p.elim
  · rename_i es0 e0
    obtain ⟨a, xs0, e1, hq0, _⟩ := ownAt.run r e0
    refine ⟨_, e1, .inl ⟨rfl, xs0, hK ▸ hq0⟩, M, s, r, Post.bind p fun y s1 M1 H1 u r1 q1 ev1 p1 => ?_⟩
    split at p1
    · rename_i j ds e2
      cases q1
      split at p1
      · rename_i hz
        split at p1
        · rename_i n hn
          split at p1
          · rename_i d s2 hd1 e4
            obtain ⟨a2, xs, es2, e5, e6, h7, h8, h9, _⟩ := ownPut.run r1 e4
            rw [e2] at e5
            cases e5
            rw [e1] at e6
            cases e6
            obtain ⟨r2, ev2⟩ := ownPut.upd r1 e4 e1 (h9.erase n)
            obtain ⟨v, hv1, qv⟩ := h9.get hd1
            exact ⟨a, xs, j, n, v, rfl, rfl, h7, hz.1, hz.2, by rw [h9.length]; exact hn, hv1, p1 v _ M1 r2 (qv.move r1.mo ev2) ev2⟩
          · exact p1.elim
        · exact p1.elim
      · exact p1.elim
    · exact p1.elim

/-! ### what is walked -/
/-- the iterator J walks the data ds, from (M, H) on -/
structure Wk (K : PySem.W.Frag) (M : MS) (H : Hp) (J : It) (ds : List D) : Prop where
  go : ∀ i d M' H', MOk M' H' → Ev M H M' H' → ds[i]? = some d → J.go i H' ∧ ∀ x H'', J.yld i H' x H'' → Same H' H'' ∧ Rp K M' H'' x d
  stop : ∀ M' H', MOk M' H' → Ev M H M' H' → J.stop ds.length H'
def PostI (B : Bs) (W : WX) (M : MS) (H : Hp) (σ : L2.St) (r : R (List D)) (Q : It → Hp → Prop) : Prop := match r with
  | .ok ds s' => ∀ J H' M', SR B M' σ H' s' → Wk B.K M' H' J ds → Ev M H M' H' → Q J H'
  | .er x s' => ∀ cls od H' M', SR B M' σ H' s' → XR B.K M' H' cls od x → W cls od σ H'
  | .no => False
def tI (B : Bs) (W : WX) (f : F (List D)) : TI := fun σ H Q => ∃ M s, SR B M σ H s ∧ PostI B W M H σ (f s) Q
def SI (X : Cx) (B : Bs) (W : WX) (tg iter : Expr) (f : F (List D)) : Prop := PI X tg iter (tI B W f)
theorem PI.imp {tg iter : Expr} {t u : TI} (h : PI X tg iter t) (k : ∀ σ H Q, u σ H Q → t σ H Q) : PI X tg iter u := ⟨fun pins s σ H Q I q => h.run pins s σ H Q I (k σ H Q q)⟩
theorem PI.or {tg iter : Expr} {t u : TI} (h1 : PI X tg iter t) (h2 : PI X tg iter u) : PI X tg iter (fun σ H Q => t σ H Q ∨ u σ H Q) := ⟨fun pins s σ H Q I q => q.elim (h1.run pins s σ H Q I) (h2.run pins s σ H Q I)⟩
variable {α β : Type} {M M' : MS} {σ : L2.St} {H H' : Hp} {s : List Sl}
theorem PostI.later {r : R (List D)} {Q : It → Hp → Prop} (h : PostI B W M H σ r Q) (ev : Ev M H M' H') : PostI B W M' H' σ r Q := by
  cases r with
  | ok d s' => exact fun v H2 M2 a b c => h v H2 M2 a b (ev.trans c)
  | er x s' => exact h
  | no => exact h
theorem PostI.bind {rho : RelT β α} {r : R α} {g : α → F (List D)} {Q : It → Hp → Prop} {Q1 : β → Hp → Prop} (h : PostI B W M H σ (r.bind g) Q)
    (k : ∀ d s1 M1 H1 x, SR B M1 σ H1 s1 → rho M1 H1 x d → Ev M H M1 H1 → PostI B W M1 H1 σ (g d s1) Q → Q1 x H1) : Post B W rho M H σ r Q1 := by
  cases r with
  | ok d s' => exact fun v H2 M2 a b c => k d s' M2 H2 v a b c (PostI.later h c)
  | er x s' => exact h
  | no => exact h
theorem PostI.out {ds : List D} {Q : It → Hp → Prop} {J : It} (h : PostI B W M H σ (.ok ds s) Q) (r : SR B M σ H s) (w : Wk B.K M H J ds) : Q J H := h J H M r w .rfl
theorem SqL.ev {K : PySem.W.Frag} {a : Addr} {xs : List V} (h : (Rd H a (.lst xs) ∧ ¬ M a) ∨ (∀ H, SqL K H a xs)) (ev : Ev M H M' H') : SqL K H' a xs := by
  rcases h with ⟨h, n⟩ | h
  · exact .inl (Rd.step ev.st n h)
  · exact h H'
theorem wk_list {K : PySem.W.Frag} {a : Addr} {xs : List V} {ds : List D} (m : MOk M H) (h : (Rd H a (.lst xs) ∧ ¬ M a) ∨ (∀ H, SqL K H a xs)) (l : RpL K M H xs ds) : Wk K M H (Itl K a) ds where
  go := fun i d M' H' m' ev e => by
    obtain ⟨v, hv, q⟩ := l.get e
    refine ⟨⟨xs, v, SqL.ev h ev, hv⟩, fun x H'' y => ?_⟩
    obtain ⟨rfl, y⟩ := y
    have := y xs (SqL.ev h ev)
    rw [hv] at this
    cases this
    exact ⟨.refl _, q.move m ev⟩
  stop := fun M' H' m' ev => ⟨xs, SqL.ev h ev, by rw [l.length]; exact Nat.le_refl _⟩
theorem SqT.ev {K : PySem.W.Frag} {a : Addr} {xs : List V} (m : MOk M H) (h : Rd H a (.tup xs) ∨ (∀ H, SqT K H a xs)) (ev : Ev M H M' H') : SqT K H' a xs := by
  rcases h with h | h
  · exact .inl (Rd.step ev.st (Rd.notMT m h) h)
  · exact h H'
theorem wk_tup {K : PySem.W.Frag} {a : Addr} {xs : List V} {ds : List D} (m : MOk M H) (h : Rd H a (.tup xs) ∨ (∀ H, SqT K H a xs)) (l : RpL K M H xs ds) : Wk K M H (Itt K a) ds where
  go := fun i d M' H' m' ev e => by
    obtain ⟨v, hv, q⟩ := l.get e
    refine ⟨⟨xs, v, SqT.ev m h ev, hv⟩, fun x H'' y => ?_⟩
    obtain ⟨rfl, y⟩ := y
    have := y xs (SqT.ev m h ev)
    rw [hv] at this
    cases this
    exact ⟨.refl _, q.move m ev⟩
  stop := fun M' H' m' ev => ⟨xs, SqT.ev m h ev, by rw [l.length]; exact Nat.le_refl _⟩
/-- over a list or a tuple -/
def iterF (f : F D) : F (List D) := fun s => (f s).bind fun d s1 => match d with
  | .lst ds => .ok ds s1
  | .tup ds => .ok ds s1
  | .fz ds => .ok ds s1
  | _ => .no
theorem si_seq {tg : Expr} (hK : X.K = B.K) (he : SE X B W e f) : SI X B W tg e (iterF f) := by
  refine PI.imp (PI.or (pi_list he) (pi_tup he)) fun σ H Q ⟨M, s, r, p⟩ => ?_
  unfold iterF at p
  cases hf : f s with
  | no => rw [hf] at p; exact p.elim
  | er x s1 =>
    refine .inl ⟨M, s, r, ?_⟩
    rw [hf] at p ⊢
    exact p
  | ok d s1 =>
    rw [hf, R.bind_ok] at p
    cases d with
    | lst ds =>
      refine .inl ⟨M, s, r, ?_⟩
      rw [hf]
      intro v H1 M1 r1 q1 ev1
      have p1 : PostI B W M1 H1 σ (.ok ds s1) Q := PostI.later p ev1
      cases q1 with
      | lst h n l => exact ⟨_, rfl, ⟨_, .of h⟩, (by rw [hK]; exact p1.out r1 (wk_list r1.mo (.inl ⟨.of h, n⟩) l))⟩
    | fz ds =>
      refine .inl ⟨M, s, r, ?_⟩
      rw [hf]
      intro v H1 M1 r1 q1 ev1
      have p1 : PostI B W M1 H1 σ (.ok ds s1) Q := PostI.later p ev1
      cases q1 with
      | fz h n l => exact ⟨_, rfl, ⟨_, .inl h⟩, (by rw [hK]; exact p1.out r1 (wk_list r1.mo (.inl ⟨h, n⟩) l))⟩
      | fzK h l => exact ⟨_, rfl, ⟨_, hK ▸ h H1⟩, (by rw [hK]; exact p1.out r1 (wk_list r1.mo (.inr h) l))⟩
    | tup ds =>
      refine .inr ⟨M, s, r, ?_⟩
      rw [hf]
      intro v H1 M1 r1 q1 ev1
      have p1 : PostI B W M1 H1 σ (.ok ds s1) Q := PostI.later p ev1
      cases q1 with
      | tup h l => exact ⟨_, rfl, ⟨_, .of h⟩, (by rw [hK]; exact p1.out r1 (wk_tup r1.mo (.inl (.of h)) l))⟩
      | tupK h l => exact ⟨_, rfl, ⟨_, hK ▸ h.sq H1⟩, (by rw [hK]; exact p1.out r1 (wk_tup r1.mo (.inr h.sq) l))⟩
    | _ => exact p.elim

/-! ### for -/
/-- the turns of a loop -/
def forL (a : AS) (g : G) : List D → G
  | [], s => .nx s
  | d :: ds, s => match a d s with
    | none => .no
    | some s1 => match g s1 with
      | .nx s2 => forL a g ds s2
      | .ct s2 => forL a g ds s2
      | .bk s2 => .nx s2
      | .rt d s2 => .rt d s2
      | .rn d s2 => .rn d s2
      | .er x s2 => .er x s2
      | .no => .no
def forG (f : F (List D)) (a : AS) (g : G) : G := fun s => (f s).out fun ds s1 => forL a g ds s1
theorem PostS.bindI {r : R (List D)} {g : List D → G} {E : Ends} {Q1 : It → Hp → Prop} (h : PostS B W M H (r.out g) E)
    (k : ∀ ds s1 M1 H1 J, SR B M1 σ H1 s1 → Wk B.K M1 H1 J ds → Ev M H M1 H1 → PostS B W M1 H1 (g ds s1) E → Q1 J H1) : PostI B W M H σ r Q1 := by
  cases r with
  | ok d s' => exact fun v H2 M2 a b c => k d s' M2 H2 v a b c (PostS.later h c)
  | er x s' => exact fun cls od H' M' a b => h cls od σ H' M' a b
  | no => exact h
theorem ss_for {tg iter : Expr} {body : List Stmt} {ks : List Nat} {a : AS} {gb : G} (hp : PassesOwn (model X.prog X.w) X.A X.env X.xe) (hc : X.calm = true) (hi : SI X B W tg iter k) (hg : SG X B ks tg a) (hb : SSs X B W body gb)
    (hs : ∀ x, foldedSetIterable iter X.env x = pure x := by intro _; rfl) : SS X B W (.For tg iter body [] pos) (forG k a gb) := by
  refine PS.imp (ps_for hp hc hi hg hb hs) fun E σ H ⟨M, s, r, p⟩ => ⟨M, s, r, PostS.bindI p fun ds s1 M1 H1 J r1 wk ev1 p1 => ?_⟩
  refine ⟨fun i m σ' H' => m = ds.length - i ∧ i ≤ ds.length ∧ ∃ M' s', SR B M' σ' H' s' ∧ Ev M1 H1 M' H' ∧ PostS B W M' H' (forL a gb (ds.drop i) s') E, ⟨ds.length, rfl, Nat.zero_le _, M1, s1, r1, .rfl, p1⟩, ?_⟩
  rintro i m σ2 H2 ⟨rfl, hi, M2, s2, r2, ev2, p2⟩
  by_cases hlt : i < ds.length
  · obtain ⟨d, hd⟩ : ∃ d, ds[i]? = some d := ⟨ds[i], List.getElem?_eq_getElem hlt⟩
    have hdr : ds.drop i = d :: ds.drop (i + 1) := by
      rw [List.drop_eq_getElem_cons hlt]
      rw [List.getElem?_eq_getElem hlt] at hd
      cases hd
      rfl
    rw [hdr] at p2
    obtain ⟨hgo, hy⟩ := wk.go i d M2 H2 r2.mo ev2 hd
    refine .inr ⟨hgo, fun σ' H' => ∃ M' s', SR B M' σ' H' s' ∧ Ev M1 H1 M' H' ∧ PostS B W M' H' (forL a gb (ds.drop (i + 1)) s') E, fun σ' H' q => ⟨ds.length - (i + 1), by omega, rfl, hlt, q⟩, fun x H3 y => ?_⟩
    obtain ⟨sm, qx⟩ := hy x H3 y
    refine ⟨M2, s2, d, r2.grow sm, qx, ?_⟩
    unfold forL at p2
    revert p2
    cases a d s2 with
    | none => exact fun p2 => p2
    | some s3 =>
      intro p2 σ4 H4 M4 r4 ev4 _
      have ev24 : Ev M2 H2 M4 H4 := (Ev.same sm).trans ev4
      refine ⟨M4, s3, r4, ?_⟩
      have p2' := PostS.later p2 ev24
      dsimp only at p2'
      revert p2'
      cases gb s3 with
      | nx s5 => exact fun p2 σ5 H5 M5 r5 ev5 => ⟨M5, s5, r5, (ev2.trans ev24).trans ev5, PostS.later p2 ev5⟩
      | ct s5 => exact fun p2 σ5 H5 M5 r5 ev5 => ⟨M5, s5, r5, (ev2.trans ev24).trans ev5, PostS.later p2 ev5⟩
      | bk s5 => exact fun p2 => p2
      | rt d s5 => exact fun p2 => p2
      | rn d s5 => exact fun p2 => p2
      | er x s5 => exact fun p2 => p2
      | no => exact fun p2 => p2
  · have e : i = ds.length := by omega
    subst e
    rw [List.drop_length] at p2
    exact .inl ⟨wk.stop M2 H2 r2.mo ev2, p2 σ2 H2 M2 r2 .rfl⟩

/-! ### while -/
def whileL (u : F Bool) (g : G) : Nat → G
  | 0, _ => .no
  | n + 1, s => (u s).out fun b s1 => if b = true then match g s1 with
      | .nx s2 => whileL u g n s2
      | .ct s2 => whileL u g n s2
      | .bk s2 => .nx s2
      | .rt d s2 => .rt d s2
      | .rn d s2 => .rn d s2
      | .er x s2 => .er x s2
      | .no => .no
    else .nx s1
/-- n: as many turns as one likes -/
theorem ss_while (n : Nat) {c : Expr} {body : List Stmt} {u : F Bool} {gb : G} (hp : PassesOwn (model X.prog X.w) X.A X.env X.xe) (hc : ST X B W c u) (hb : SSs X B W body gb) : SS X B W (.While c body [] pos) (whileL u gb n) := by
  refine PS.imp (ps_while hp hc hb) fun E σ H ⟨M, s, r, p⟩ => ?_
  refine ⟨fun m σ' H' => ∃ M' s', SR B M' σ' H' s' ∧ PostS B W M' H' (whileL u gb m s') E, ⟨n, M, s, r, p⟩, ?_⟩
  rintro m σ2 H2 ⟨M2, s2, r2, p2⟩
  cases m with
  | zero => exact p2.elim
  | succ m =>
    unfold whileL at p2
    refine ⟨M2, s2, r2, PostS.bind p2 fun b s3 M3 H3 v r3 q3 ev3 p3 => ?_⟩
    have q3 : v = b := q3
    subst q3
    cases v with
    | false =>
      show E.nx σ2 H3
      exact p3 σ2 H3 M3 r3 .rfl
    | true =>
      refine ⟨fun σ' H' => ∃ M' s', SR B M' σ' H' s' ∧ PostS B W M' H' (whileL u gb m s') E, fun σ' H' q => ⟨m, Nat.lt_succ_self m, q⟩, M3, s3, r3, ?_⟩
      rw [if_pos rfl] at p3
      revert p3
      cases gb s3 with
      | nx s5 => exact fun p2 σ5 H5 M5 r5 ev5 => ⟨M5, s5, r5, PostS.later p2 ev5⟩
      | ct s5 => exact fun p2 σ5 H5 M5 r5 ev5 => ⟨M5, s5, r5, PostS.later p2 ev5⟩
      | bk s5 => exact fun p2 => p2
      | rt d s5 => exact fun p2 => p2
      | rn d s5 => exact fun p2 => p2
      | er x s5 => exact fun p2 => p2
      | no => exact fun p2 => p2
end
end Fx

set_option Elab.async false
set_option linter.all false
set_option maxRecDepth 100000
namespace Fx
open PySem L2
/-! ### comprehensions -/
def wipeS (s : List Sl) : List Nat → List Sl
  | [] => s
  | v :: vs => (wipeS s vs).set v .un
def restS (s1 s3 : List Sl) : List Nat → List Sl
  | [] => s3
  | v :: vs => (restS s1 s3 vs).set v (s1.getD v .un)
theorem wipeS_length (s : List Sl) : ∀ vs, (wipeS s vs).length = s.length
  | [] => rfl
  | v :: vs => by unfold wipeS; rw [List.length_set, wipeS_length s vs]
theorem restS_length (s1 s3 : List Sl) : ∀ vs, (restS s1 s3 vs).length = s3.length
  | [] => rfl
  | v :: vs => by unfold restS; rw [List.length_set, restS_length s1 s3 vs]
theorem wipeS_get (s : List Sl) (i : Nat) : ∀ vs, (wipeS s vs)[i]? = if i ∈ vs then (if i < s.length then some .un else none) else s[i]?
  | [] => by simp [wipeS]
  | v :: vs => by
    unfold wipeS
    by_cases e : v = i
    · subst e
      rw [if_pos List.mem_cons_self]
      by_cases h : v < s.length
      · rw [List.getElem?_set_self (by rw [wipeS_length]; exact h), if_pos h]
      · rw [if_neg h]
        exact List.getElem?_eq_none (by rw [List.length_set, wipeS_length]; omega)
    · rw [List.getElem?_set_ne e, wipeS_get s i vs]
      have : (i ∈ v :: vs) = (i ∈ vs) := by simp [Ne.symm e]
      simp only [this]
theorem wipe_get (σ : L2.St) (i : Nat) : ∀ vs, (wipe σ vs)[i]? = if i ∈ vs then (if i < σ.length then some none else none) else σ[i]?
  | [] => by simp [wipe]
  | v :: vs => by
    unfold wipe
    by_cases e : v = i
    · subst e
      rw [if_pos List.mem_cons_self]
      by_cases h : v < σ.length
      · rw [List.getElem?_set_self (by rw [wipe_length]; exact h), if_pos h]
      · rw [if_neg h]
        exact List.getElem?_eq_none (by rw [List.length_set, wipe_length]; omega)
    · rw [List.getElem?_set_ne e, wipe_get σ i vs]
      have : (i ∈ v :: vs) = (i ∈ vs) := by simp [Ne.symm e]
      simp only [this]
theorem restS_get (s1 s3 : List Sl) (i : Nat) : ∀ vs, (restS s1 s3 vs)[i]? = if i ∈ vs then (if i < s3.length then some (s1.getD i .un) else none) else s3[i]?
  | [] => by simp [restS]
  | v :: vs => by
    unfold restS
    by_cases e : v = i
    · subst e
      rw [if_pos List.mem_cons_self]
      by_cases h : v < s3.length
      · rw [List.getElem?_set_self (by rw [restS_length]; exact h), if_pos h]
      · rw [if_neg h]
        exact List.getElem?_eq_none (by rw [List.length_set, restS_length]; omega)
    · rw [List.getElem?_set_ne e, restS_get s1 s3 i vs]
      have : (i ∈ v :: vs) = (i ∈ vs) := by simp [Ne.symm e]
      simp only [this]
theorem wipe_eq {σ σ' : L2.St} {vs : List Nat} (hl : σ'.length = σ.length) (h : ∀ i, i ∉ vs → σ'[i]? = σ[i]?) : wipe σ' vs = wipe σ vs := by
  refine List.ext_getElem? fun i => ?_
  rw [wipe_get, wipe_get, hl]
  by_cases hi : i ∈ vs
  · rw [if_pos hi, if_pos hi]
  · rw [if_neg hi, if_neg hi]
    exact h i hi
theorem wipe_wipe {σ : L2.St} {vs : List Nat} : wipe (wipe σ vs) vs = wipe σ vs := wipe_eq (wipe_length σ vs) fun i hi => by rw [wipe_get, if_neg hi]
def okC (s : List Sl) (v : Nat) : Bool := match s[v]? with
  | some (.ow _) => false
  | some (.io _) => false
  | _ => true
section
variable {B : Bs} {M M' : MS} {σ : L2.St} {H H' : Hp} {s s1 s3 : List Sl}
theorem SR.wiped {vs : List Nat} (r : SR B M σ H s) (h : ∀ v ∈ vs, ∀ ds : MO, s[v]? ≠ some (.io ds)) : SR B M (wipe σ vs) H (wipeS s vs) := by
  have up : ∀ {i : Nat} {x : Sl}, (wipeS s vs)[i]? = some x → x ≠ .un → i ∉ vs ∧ s[i]? = some x := fun {i x} e n => by
    rw [wipeS_get] at e
    by_cases hi : i ∈ vs
    · rw [if_pos hi] at e
      split at e
      · cases e
        exact absurd rfl n
      · cases e
    · rw [if_neg hi] at e
      exact ⟨hi, e⟩
  have dw : ∀ {i : Nat}, i ∉ vs → (wipe σ vs)[i]? = σ[i]? := fun {i} hi => by rw [wipe_get, if_neg hi]
  exact {
    va := fun i d e => by
      obtain ⟨hi, e⟩ := up e (by intro z; cases z)
      rw [dw hi]
      exact r.va i d e
    ow := fun i d e => by
      obtain ⟨hi, e⟩ := up e (by intro z; cases z)
      rw [dw hi]
      exact r.ow i d e
    io := fun i d e => by
      obtain ⟨hi, e⟩ := up e (by intro z; cases z)
      have q := r.io i d e
      rw [q.1] at hi
      rw [dw hi]
      exact q
    pa := fun a ha => by
      obtain ⟨h1, ds, h2⟩ := r.pa a ha
      refine ⟨h1, ds, ?_⟩
      have n0 : 0 ∉ vs := fun z => h 0 z ds h2
      rw [wipeS_get, if_neg n0]
      exact h2
    ne := fun i j ds es a n h1 h2 h3 h4 => by
      obtain ⟨hi, e1⟩ := up h1 (by intro z; cases z)
      obtain ⟨hj, e2⟩ := up h2 (by intro z; cases z)
      rw [dw hi] at h3
      rw [dw hj] at h4
      exact r.ne i j ds es a n e1 e2 h3 h4
    mo := r.mo
    up := r.up
    dn := r.dn
    st := r.st
    bm := r.bm
    lk := fun b o e => by
      obtain ⟨h1, h2, h3⟩ := r.lk b o e
      refine ⟨h1, h2, fun ⟨j, ds, h4, h5⟩ => h3 ?_⟩
      rcases h4 with h4 | h4
      · obtain ⟨hj, e2⟩ := up h4 (by intro z; cases z)
        rw [dw hj] at h5
        exact ⟨j, ds, .inl e2, h5⟩
      · obtain ⟨hj, e2⟩ := up h4 (by intro z; cases z)
        rw [dw hj] at h5
        exact ⟨j, ds, .inr e2, h5⟩
    len := by rw [wipeS_length, wipe_length]; exact r.len }
theorem SR.restore {vs : List Nat} (r1 : SR B M σ H s1) (r : SR B M' (wipe σ vs) H' (wipeS s3 vs)) (ev : Ev M H M' H') (h : ∀ v ∈ vs, okC s1 v = true) : SR B M' σ H' (restS s1 s3 vs) := by
  have l3 : s3.length = σ.length := by
    have := r.len
    rw [wipeS_length, wipe_length] at this
    exact this
  have old : ∀ {i : Nat} {x : Sl}, i ∈ vs → (restS s1 s3 vs)[i]? = some x → s1[i]? = some x := fun {i x} hi e => by
    rw [restS_get, if_pos hi] at e
    split at e
    · rename_i hl
      cases e
      have : i < s1.length := by rw [r1.len, ← l3]; exact hl
      rw [List.getD_eq_getElem?_getD, List.getElem?_eq_getElem this]
      rfl
    · cases e
  have new : ∀ {i : Nat} {x : Sl}, i ∉ vs → (restS s1 s3 vs)[i]? = some x → (wipeS s3 vs)[i]? = some x := fun {i x} hi e => by
    rw [restS_get, if_neg hi] at e
    rw [wipeS_get, if_neg hi]
    exact e
  have dw : ∀ {i : Nat}, i ∉ vs → (wipe σ vs)[i]? = σ[i]? := fun {i} hi => by rw [wipe_get, if_neg hi]
  have noOw : ∀ {i : Nat} {ds : MO}, (restS s1 s3 vs)[i]? = some (.ow ds) ∨ (restS s1 s3 vs)[i]? = some (.io ds) → i ∉ vs := fun {i ds} e hi => by
    have q := h i hi
    unfold okC at q
    rcases e with e | e
    · rw [old hi e] at q
      cases q
    · rw [old hi e] at q
      cases q
  exact {
    va := fun i d e => by
      by_cases hi : i ∈ vs
      · obtain ⟨v, e1, q⟩ := r1.va i d (old hi e)
        exact ⟨v, e1, q.move r1.mo ev⟩
      · rw [← dw hi]
        exact r.va i d (new hi e)
    ow := fun i d e => by
      have hi := noOw (.inl e)
      rw [← dw hi]
      exact r.ow i d (new hi e)
    io := fun i d e => by
      have hi := noOw (.inr e)
      have q := r.io i d (new hi e)
      rw [q.1] at hi
      rw [← dw hi]
      exact q
    pa := fun a ha => by
      obtain ⟨h1, ds, h2⟩ := r.pa a ha
      refine ⟨h1, ds, ?_⟩
      rw [wipeS_get] at h2
      by_cases hi : 0 ∈ vs
      · rw [if_pos hi] at h2
        split at h2 <;> cases h2
      · rw [if_neg hi] at h2
        rw [restS_get, if_neg hi]
        exact h2
    ne := fun i j ds es a n h1 h2 h3 h4 => by
      have hi := noOw (.inl h1)
      have hj := noOw (.inl h2)
      exact r.ne i j ds es a n (new hi h1) (new hj h2) (by rw [dw hi]; exact h3) (by rw [dw hj]; exact h4)
    mo := r.mo
    up := r.up
    dn := r.dn
    st := r.st
    bm := r.bm
    lk := fun b o e => by
      obtain ⟨h1, h2, h3⟩ := r.lk b o e
      refine ⟨h1, h2, fun ⟨j, ds, h4, h5⟩ => h3 ?_⟩
      have hj := noOw h4
      exact ⟨j, ds, h4.imp (new hj) (new hj), by rw [dw hj]; exact h5⟩
    len := by rw [restS_length]; exact l3 }
/-- an owned object that is in no slot is locked, is changed, is let go -/
def Bs.lock (B : Bs) (p : Addr) (o : HO) : Bs := { B with L := fun b => if b = p then some o else B.L b }
theorem SR.locked {p : Addr} {o : HO} (r : SR B M σ H s) (hp : H p = some o) (hm : M p) (hn : ¬ Own σ s p) : SR (B.lock p o) M σ H s where
  va := r.va
  ow := r.ow
  io := r.io
  pa := r.pa
  ne := r.ne
  mo := r.mo
  up := r.up
  dn := r.dn
  st := r.st
  bm := r.bm
  lk := fun b u e => by
    by_cases hb : b = p
    · subst hb
      have e : (if b = b then some o else B.L b) = some u := e
      rw [if_pos rfl] at e
      cases e
      exact ⟨hm, hp, hn⟩
    · have e : (if b = p then some o else B.L b) = some u := e
      rw [if_neg hb] at e
      exact r.lk b u e
  len := r.len
theorem SR.relock {p : Addr} {xs ys : List V} (r : SR (B.lock p (.lst xs)) M σ H s) (h0 : B.H0 p = none) : SR (B.lock p (.lst ys)) M σ (upd H p (.lst ys)) s ∧ Ev M H M (upd H p (.lst ys)) := by
  obtain ⟨hm, hp, hn⟩ := r.lk p (.lst xs) (show (if p = p then some (HO.lst xs) else B.L p) = some (.lst xs) by rw [if_pos rfl])
  have st : Step (fun b => b = p) H (upd H p (.lst ys)) := fun b u e n => by rw [upd_ne n]; exact e
  have ev : Ev M H M (upd H p (.lst ys)) := ⟨fun _ z => .inl z, fun b u e n => st b u e fun z => n (z ▸ hm)⟩
  have npa : B.pa ≠ some p := fun z => r.bm.there h0 (r.pa p z).1
  refine ⟨?_, ev⟩
  exact {
    va := fun i d e => let ⟨v, e1, q⟩ := r.va i d e; ⟨v, e1, q.move r.mo ev⟩
    ow := fun i d e => by
      obtain ⟨a, zs, e1, q, m, n, l⟩ := r.ow i d e
      have ne : a ≠ p := fun z => hn ⟨i, d, .inl e, z ▸ e1⟩
      exact ⟨a, zs, e1, st _ _ q ne, m, n, l.move r.mo ev⟩
    io := fun i d e => by
      obtain ⟨z, a, zs, p2, e1, q, m, l⟩ := r.io i d e
      have ne : a ≠ p := fun z => npa (z ▸ p2)
      exact ⟨z, a, zs, p2, e1, st _ _ q ne, m, l.move r.mo ev⟩
    pa := r.pa
    ne := r.ne
    mo := fun b z => by
      by_cases hb : b = p
      · subst hb; rw [upd_same]; exact trivial
      · rw [upd_ne hb]; exact r.mo b z
    up := r.up
    dn := r.dn
    st := fun b u e n => st b u (r.st b u e n) fun z => by
      subst z
      have e : B.H0 b = some u := e
      rw [h0] at e
      cases e
    bm := r.bm
    lk := fun b u e => by
      by_cases hb : b = p
      · subst hb
        have e : (if b = b then some (HO.lst ys) else B.L b) = some u := e
        rw [if_pos rfl] at e
        cases e
        exact ⟨hm, upd_same, hn⟩
      · have e : (if b = p then some (HO.lst ys) else B.L b) = some u := e
        rw [if_neg hb] at e
        obtain ⟨h1, h2, h3⟩ := r.lk b u (show (if b = p then some (HO.lst xs) else B.L b) = some u by rw [if_neg hb]; exact e)
        exact ⟨h1, by rw [upd_ne hb]; exact h2, h3⟩
    len := r.len }
theorem SR.unlock {p : Addr} {o : HO} (r : SR (B.lock p o) M σ H s) (hL : B.L p = none) : SR B M σ H s where
  va := r.va
  ow := r.ow
  io := r.io
  pa := r.pa
  ne := r.ne
  mo := r.mo
  up := r.up
  dn := r.dn
  st := r.st
  bm := r.bm
  lk := fun b u e => r.lk b u (show (if b = p then some o else B.L b) = some u by
    by_cases hb : b = p
    · subst hb; rw [hL] at e; cases e
    · rw [if_neg hb]; exact e)
  len := r.len
end
abbrev W0 : WX := fun _ _ _ _ => False
/-- the turns of a comprehension -/
def compL (vs : List Nat) (a : AS) (u : F Bool) (f : F D) : List D → F (List D)
  | [], s => .ok [] s
  | d :: ds, s => match a d (wipeS s vs) with
    | none => .no
    | some s1 => match u s1 with
      | .ok true s2 => match f s2 with
        | .ok y s3 => match compL vs a u f ds s3 with
          | .ok ys s4 => .ok (y :: ys) s4
          | _ => .no
        | _ => .no
      | .ok false s2 => compL vs a u f ds s2
      | _ => .no
def compN (kI : F (List D)) (vs : List Nat) (a : AS) (u : F Bool) (f : F D) : F (List D) := fun s => (kI s).bind fun ds s1 =>
  if ds.length < sizeLine ∧ vs.all (okC s1) = true then match compL vs a u f ds s1 with
    | .ok ys s2 => .ok ys (restS s1 s2 vs)
    | _ => .no
  else .no
theorem compL_len {vs : List Nat} {a : AS} {u : F Bool} {f : F D} : ∀ {ds : List D} {s s' : List Sl} {ys : List D}, compL vs a u f ds s = .ok ys s' → ys.length ≤ ds.length
  | [], _, _, _, h => by unfold compL at h; cases h; exact Nat.le_refl _
  | d :: ds, s, s', ys, h => by
    unfold compL at h
    split at h
    · cases h
    · split at h
      · split at h
        · split at h
          · rename_i e
            cases h
            exact Nat.succ_le_succ (compL_len e)
          · cases h
        · cases h
      · exact Nat.le_succ_of_le (compL_len h)
      · cases h
section
variable {X : Cx} {B : Bs} {W : WX}
theorem PG.ex {tg : Expr} {I : Type} {P : I → Prop} {t : I → TG} (h : ∀ i, P i → PG X tg (t i)) : PG X tg (fun v σ H Q => ∃ i, P i ∧ t i v σ H Q) := ⟨fun pins s σ H v w Q I r ⟨i, hi, q⟩ => (h i hi).run pins s σ H v w Q I r q⟩
theorem PTs.ex {ifs : List Expr} {I : Type} {P : I → Prop} {t : I → TT} (h : ∀ i, P i → PTs X ifs (t i)) : PTs X ifs (fun σ H Q => ∃ i, P i ∧ t i σ H Q) := ⟨fun pins s σ H Q I ⟨i, hi, q⟩ => (h i hi).run pins s σ H Q I q⟩
theorem PE.ex {e : Expr} {I : Type} {P : I → Prop} {t : I → TE} (h : ∀ i, P i → PE X e (t i)) : PE X e (fun σ H Q => ∃ i, P i ∧ t i σ H Q) := ⟨fun pins s σ H Q I ⟨i, hi, q⟩ => (h i hi).run pins s σ H Q I q⟩
def STs (X : Cx) (B : Bs) (W : WX) (ifs : List Expr) (u : F Bool) : Prop := PTs X ifs (tP B W rhoB u)
def yesT : F Bool := fun s => .ok true s
theorem sts_nil : STs X B W [] yesT := ⟨fun pins s σ H Q I ⟨M, s', r, p⟩ => pts_nil.run pins s σ H Q I (p.out r rfl)⟩
theorem sts_one {c : Expr} {u : F Bool} (h : ST X B W c u) : STs X B W [c] u := pts_one h
/-- the reading of a comprehension -/
theorem lc_read {kI : F (List D)} {vs ks : List Nat} {a : AS} {u : F Bool} {f : F D} {σ : L2.St} {H : Hp} {Q : VK} (hks : ∀ i ∈ ks, i ∈ vs) (h : tN B W (compN kI vs a u f) σ H Q) :
    tLc (tI B W kI) (fun v σ H Q => ∃ B' : Bs, B'.K = B.K ∧ tA B' ks a v σ H Q) (fun σ H Q => ∃ B' : Bs, B'.K = B.K ∧ tP B' W0 rhoB u σ H Q) (fun σ H Q => ∃ B' : Bs, B'.K = B.K ∧ tP B' W0 (rhoD B') f σ H Q) vs σ H Q := by
  obtain ⟨M, s, r, p⟩ := h
  refine ⟨M, s, r, ?_⟩
  unfold compN at p
  cases hk : kI s with
  | no => rw [hk] at p; exact p.elim
  | er x s1 => rw [hk] at p; exact p
  | ok ds s1 =>
    rw [hk, R.bind_ok] at p
    intro J H1 M1 r1 wk ev1 A hA
    split at p
    case isFalse => exact p.elim
    case isTrue hc =>
    obtain ⟨hz, hall⟩ := hc
    have hok : ∀ v ∈ vs, okC s1 v = true := fun v hv => List.all_eq_true.mp hall v hv
    split at p
    case h_2 => exact p.elim
    case h_1 tot sfin htot =>
    have notIo : ∀ {M' : MS} {σ' : L2.St} {H' : Hp} {s' : List Sl} {B' : Bs}, B'.pa = B.pa → SR B' M' σ' H' s' → ∀ v ∈ vs, ∀ ds : MO, s'[v]? ≠ some (.io ds) := fun {M' σ' H' s' B'} hp r' v hv ds e => by
      obtain ⟨z, a', _, h1, _⟩ := r'.io v ds e
      subst z
      obtain ⟨_, es, h2⟩ := r1.pa a' (hp ▸ h1)
      have q := hok 0 hv
      unfold okC at q
      rw [h2] at q
      cases q
    obtain ⟨rA, oA⟩ := r1.newOwned (ds := []) hA RpL.nil
    obtain ⟨xs0, hx0, hm0, h00, hl0, hL0, hno0⟩ := oA
    have evA : Ev M1 H1 (With M1 A) (upd H1 A (.lst [])) := ⟨fun c z => z.elim .inl fun z => .inr (z ▸ hA), .same (same_upd hA)⟩
    rw [upd_same] at hx0
    cases hx0
    have ownA : ∀ {M' : MS} {σ' : L2.St} {H' : Hp} {s' : List Sl}, SR B M' σ' H' s' → (∀ (j : Nat) (es : MO), s'[j]? = some (.ow es) → σ'[j]? ≠ some (some (.ref A))) → ¬ Own σ' s' A := fun {M' σ' H' s'} r' hn ⟨j, es, h1, h2⟩ => by
      rcases h1 with h1 | h1
      · exact hn j es h1 h2
      · obtain ⟨z, a', _, h3, h4, _⟩ := r'.io j es h1
        subst z
        rw [h2] at h4
        cases h4
        exact r'.bm.there h00 (r'.pa _ h3).1
    have rW := (rA.locked upd_same hm0 (ownA rA hno0)).wiped (vs := vs) (notIo rfl r1)
    refine ⟨fun i m H' => m = ds.length - i ∧ i ≤ ds.length ∧ ∃ M' s' acc accd ys, SR (B.lock A (.lst acc)) M' (wipe σ vs) H' (wipeS s' vs) ∧ Ev (With M1 A) (upd H1 A (.lst [])) M' H' ∧ RpL B.K M' H' acc accd ∧ accd.length ≤ i ∧ compL vs a u f (ds.drop i) s' = .ok ys sfin ∧ tot = accd ++ ys,
      ⟨ds.length, rfl, Nat.zero_le _, With M1 A, s1, [], [], tot, rW, .rfl, .nil, Nat.le_refl _, htot, rfl⟩, ?_⟩
    rintro i m H2 ⟨rfl, hi, M2, s2, acc, accd, ys, r2, ev2, q2, hz2, hL, htot2⟩
    have lockA : ∀ {l : List V}, (B.lock A (.lst l)).L A = some (.lst l) := fun {l} => if_pos rfl
    by_cases hlt : i < ds.length
    · obtain ⟨d, hd⟩ : ∃ d, ds[i]? = some d := ⟨ds[i], List.getElem?_eq_getElem hlt⟩
      have hdr : ds.drop i = d :: ds.drop (i + 1) := by
        rw [List.drop_eq_getElem_cons hlt]
        rw [List.getElem?_eq_getElem hlt] at hd
        cases hd
        rfl
      obtain ⟨hgo, hy⟩ := wk.go i d M2 H2 r2.mo (evA.trans ev2) hd
      refine .inr ⟨hgo, fun H' => ∃ M' s' acc accd ys, SR (B.lock A (.lst acc)) M' (wipe σ vs) H' (wipeS s' vs) ∧ Ev (With M1 A) (upd H1 A (.lst [])) M' H' ∧ RpL B.K M' H' acc accd ∧ accd.length ≤ i + 1 ∧ compL vs a u f (ds.drop (i + 1)) s' = .ok ys sfin ∧ tot = accd ++ ys,
        fun H' q => ⟨ds.length - (i + 1), by omega, rfl, hlt, q⟩, fun x H3 y => ?_⟩
      obtain ⟨sm, qx⟩ := hy x H3 y
      rw [hdr] at hL
      unfold compL at hL
      split at hL
      case h_1 => cases hL
      case h_2 s3 ha =>
      refine ⟨B.lock A (.lst acc), rfl, M2, wipeS s2 vs, d, r2.grow sm, qx, ?_⟩
      rw [ha]
      intro σ4 H4 M4 r4 ev4 o4
      have ev24 := (Ev.same (M := M2) sm).trans ev4
      have hw : wipe σ4 vs = wipe σ vs := by
        have := wipe_eq (vs := vs) o4.1 fun j hj => o4.2 j fun z => hj (hks j z)
        rw [this, wipe_wipe]
      refine ⟨hw, B.lock A (.lst acc), rfl, M4, s3, r4, ?_⟩
      have again : ∀ {M' : MS} {H' : Hp} {s' : List Sl} {l : List V}, SR (B.lock A (.lst l)) M' σ4 H' s' → SR (B.lock A (.lst l)) M' (wipe σ vs) H' (wipeS s' vs) := fun {M' H' s' l} r' => by
        have := r'.wiped (vs := vs) (notIo (B' := B.lock A (.lst l)) rfl r')
        rw [hw] at this
        exact this
      cases hu : u s3 with
      | no => rw [hu] at hL; cases hL
      | er x s5 => rw [hu] at hL; cases hL
      | ok b s5 =>
        rw [hu] at hL
        intro b' H5 M5 r5 hb ev5
        have hb : b' = b := hb
        subst hb
        cases b' with
        | false =>
          show ∃ M' s' acc accd ys, _
          exact ⟨M5, s5, acc, accd, ys, again r5, (ev2.trans ev24).trans ev5, (q2.move r2.mo ev24).move r4.mo ev5, Nat.le_succ_of_le hz2, hL, htot2⟩
        | true =>
          dsimp only at hL
          rw [if_pos rfl]
          refine ⟨B.lock A (.lst acc), rfl, M5, s5, r5, ?_⟩
          cases hf : f s5 with
          | no => rw [hf] at hL; cases hL
          | er x s6 => rw [hf] at hL; cases hL
          | ok y s6 =>
            rw [hf] at hL
            dsimp only at hL
            split at hL
            case h_2 => cases hL
            case h_1 ys' s7 hys =>
            cases hL
            intro v H6 M6 r6 q6 ev6
            have eall := ev24.trans (ev5.trans ev6)
            have q6' : RpL B.K M6 H6 acc accd := q2.move r2.mo eall
            obtain ⟨r7, ev7⟩ := r6.relock (ys := acc ++ [v]) h00
            refine ⟨acc, (r6.lk A _ lockA).2.1, ?_, M6, s6, acc ++ [v], accd ++ [y], ys', again r7, ((ev2.trans eall).trans ev7), (q6'.move r6.mo ev7).snoc (Rp.move r6.mo ev7 q6), ?_, hys, ?_⟩
            · rw [q2.length]
              exact Nat.lt_of_le_of_lt (Nat.le_trans hz2 hi) hz
            · rw [List.length_append]
              exact Nat.succ_le_succ hz2
            · rw [htot2, List.append_assoc]
              rfl
    · have e : i = ds.length := by omega
      subst e
      rw [List.drop_length] at hL
      unfold compL at hL
      cases hL
      rw [List.append_nil] at htot2
      subst htot2
      refine .inl ⟨wk.stop M2 H2 r2.mo (evA.trans ev2), ?_⟩
      obtain ⟨hmA, hA2, hnA⟩ := r2.lk A _ lockA
      have rU := r2.unlock hL0
      have rF := r1.restore (s3 := sfin) rU (evA.trans ev2) hok
      refine p A H2 M2 rF ⟨acc, hA2, hmA, h00, q2, hL0, fun j es h z => ?_⟩ ((ev1.trans evA).trans ev2)
      by_cases hj : j ∈ vs
      · have q := hok j hj
        unfold okC at q
        rw [restS_get, if_pos hj] at h
        split at h
        · have hl1 : j < s1.length := by
            rename_i hl
            have := rU.len
            rw [wipeS_length, wipe_length] at this
            rw [r1.len, ← this]
            exact hl
          rw [List.getD_eq_getElem?_getD, List.getElem?_eq_getElem hl1] at h
          rw [List.getElem?_eq_getElem hl1] at q
          simp only [Option.getD_some, Option.some.injEq] at h
          rw [h] at q
          cases q
        · cases h
      · refine hnA ⟨j, es, .inl ?_, by rw [wipe_get, if_neg hj]; exact z⟩
        rw [restS_get, if_neg hj] at h
        rw [wipeS_get, if_neg hj]
        exact h
theorem sn_lc {elt tg iter : Expr} {ifs : List Expr} {scope : Scope} {own : List (Str × Nat)} {pos : Pos} {kI : F (List D)} {ks : List Nat} {a : AS} {u : F Bool} {f : F D} (hc : X.calm = true) (hN : X.N.Nodup) (hi : SI X B W tg iter kI) (ok : BlkOk X.N X.env.scope scope own)
    (hg : ∀ (s : Shared) (H : Hp) (C : Addr) (cl : List (Str × Addr)) (fp : List Addr) (B' : Bs), B'.K = B.K → SG (X.blk s H scope (compEnvC scope cl C X.env) fp) B' ks tg a)
    (ht : ∀ (s : Shared) (H : Hp) (C : Addr) (cl : List (Str × Addr)) (fp : List Addr) (B' : Bs), B'.K = B.K → STs (X.blk s H scope (compEnvC scope cl C X.env) fp) B' W0 ifs u)
    (he : ∀ (s : Shared) (H : Hp) (C : Addr) (cl : List (Str × Addr)) (fp : List Addr) (B' : Bs), B'.K = B.K → SE (X.blk s H scope (compEnvC scope cl C X.env) fp) B' W0 elt f)
    (hks : ∀ i ∈ ks, i ∈ own.map (·.2)) (hs : ∀ x, foldedSetIterable iter X.env x = pure x := by intro _; rfl) : SN X B W (.ListComp elt [⟨tg, iter, ifs, 0⟩] scope pos) (compN kI (own.map (·.2)) a u f) :=
  PE.imp (pe_lc hc hN hi ok (fun s H C cl fp => PG.ex (hg s H C cl fp)) (fun s H C cl fp => PTs.ex (ht s H C cl fp)) (fun s H C cl fp => PE.ex (he s H C cl fp)) hs) fun σ H Q p => lc_read hks p
/-- name = [..] -/
theorem ss_setLc {i : Nat} {y : Str} {py : Pos} {elt tg iter : Expr} {ifs : List Expr} {scope : Scope} {own : List (Str × Nat)} {pos spos : Pos} {kI : F (List D)} {ks : List Nat} {a : AS} {u : F Bool} {f : F D} (hc : X.calm = true) (hN : X.N.Nodup) (hy : X.N[i]? = some y) (hyl : X.env.scope.names.lookup y = some .local)
    (hsw : swapsWith (.ListComp elt [⟨tg, iter, ifs, 0⟩] scope pos) (some (.Name y py)) spos.line X.env = pure true) (hi : SI X B W tg iter kI) (ok : BlkOk X.N X.env.scope scope own)
    (hg : ∀ (s : Shared) (H : Hp) (C : Addr) (cl : List (Str × Addr)) (fp : List Addr) (B' : Bs), B'.K = B.K → SG (X.blk s H scope (compEnvC scope cl C X.env) fp) B' ks tg a)
    (ht : ∀ (s : Shared) (H : Hp) (C : Addr) (cl : List (Str × Addr)) (fp : List Addr) (B' : Bs), B'.K = B.K → STs (X.blk s H scope (compEnvC scope cl C X.env) fp) B' W0 ifs u)
    (he : ∀ (s : Shared) (H : Hp) (C : Addr) (cl : List (Str × Addr)) (fp : List Addr) (B' : Bs), B'.K = B.K → SE (X.blk s H scope (compEnvC scope cl C X.env) fp) B' W0 elt f)
    (hks : ∀ i ∈ ks, i ∈ own.map (·.2)) (hs : ∀ x, foldedSetIterable iter X.env x = pure x := by intro _; rfl) : SS X B W (.Assign [.Name y py] (.ListComp elt [⟨tg, iter, ifs, 0⟩] scope pos) spos) (setNG i (compN kI (own.map (·.2)) a u f)) :=
  PS.imp (ps_setLc hc hN hy hyl hsw hi ok (fun s H C cl fp => PG.ex (hg s H C cl fp)) (fun s H C cl fp => PTs.ex (ht s H C cl fp)) (fun s H C cl fp => PE.ex (he s H C cl fp)) hs) fun E σ H ⟨M, s, r, p⟩ =>
    lc_read hks ⟨M, s, r, PostS.bindN p fun d s1 M1 H1 v r1 q1 ev1 p1 => setN_run r1 q1 p1⟩
end
end Fx

set_option Elab.async false
set_option linter.all false
set_option maxRecDepth 100000
namespace Fx
open PySem L2 PyProof.Rows
/-- a def's promise, called while nothing is being shown -/
structure FnG (P : Program) (w : World) (K : PySem.W.Frag) (mg : Str → Option Value) (base : Heap) (k : Nat) (f : Addr) (fd : FuncData) (ps : List Str) (sp : Sp) : Prop where
  len : ∀ vs H Q E, sp vs H Q E → vs.length = ps.length
  run : ∀ (A : Around) (outer : List Env) (s : Shared) (H : Hp) (args : Args) (us : List Value) (vs : List V) (Q : VK) (E : XK), Room k A → A.guards = some [] → Env0 P w K mg base A outer s H → BindsTo s fd args (ps.zip us) → Vals vs us → sp vs H Q E →
    codeAny (model P w) A (.call (.ref f) args) (CR (L2.CX P w) outer P w H s Q E) s
section
variable {P : Program} {w : World} {K : PySem.W.Frag} {mg : Str → Option Value} {base : Heap}
theorem FnG.of {k : Nat} {f : Addr} {name qual : Str} {params : Arguments} {body : List Stmt} {sc : Scope} {dV kV doc pm cdv ct oc : Value} {an od : Option Addr} {osl : Array (Option Value)} {N ps : List Str} {sp : Sp}
    (lk : K.lookup f = some ⟨oc, od, .func (PySem.W.fnOf name qual params body sc dV kV doc pm an cdv ct), osl⟩) (hcd : PySem.W.codeIn K cdv qual = true) (S : FnScope N ps sc) (len : ∀ vs H Q E, sp vs H Q E → vs.length = ps.length)
    (hbody : ∀ (A : Around) (outer : List Env) (s : Shared) (H : Hp) (vs : List V) (Q : VK) (E : XK), Room k (A.deeper (envOfC qual sc s.heap.objs.size f cdv)) → A.guards = some [] → sp vs H Q E →
      ∃ t, PSs (cxOf (L2.CX P w) P w K mg base N qual sc f cdv A outer s H E) body t ∧ t { nx := fun _ H' => Q .non H', rt := Q } (L2.start N vs) H) :
    FnG P w K mg base (k + 1) f (PySem.W.fnOf name qual params body sc dV kV doc pm an cdv ct) ps sp := by
  constructor
  · exact len
  intro A outer s H args us vs Q E room quiet e0 binds r promise
  have kin : K.In s.heap := e0.mod.kin.keeps fun b o e => (e0.bs b o e).1
  have kinds : ∀ y ∈ ps.zip us, sc.names.lookup y.1 = some .local ∨ (sc.names.lookup y.1 = some .cell ∧ ((cellsFrom (s.heap.objs.size + 1) sc.names []).lookup y.1).isSome = true) := by
    rintro ⟨n, v⟩ hy
    exact (S.par n (List.of_mem_zip hy).1).imp id fun q => ⟨q, PySem.W.cellsFrom_some _ _ _ (.inl q)⟩
  obtain ⟨t, ht, hq⟩ := hbody A outer s H vs Q E (room.deeper _) quiet promise
  refine codeAny_call_function room.depth (kin _ _ lk) rfl S.co S.gen rfl (PySem.W.codeRec_of kin hcd) (binds _ _ _ _ (wpAny_newFunctionEnv_cells S.kind kinds ?_))
  rintro env rfl s1 x
  refine ⟨(e0.mod.nolimit.keeps fun b o e => (e0.bs b o e).1).keeps x.toInCall.keep, codeAny_func ?_⟩
  have I := inv_start (CX := L2.CX P w) (E := E) (A := A) (outer := outer) S room.hd e0 (len _ _ _ _ promise) r x
  refine wpAny_mono (ht.run [] s1 (L2.start N vs) H _ I hq) (fun fl s' hs => ?_) fun e s' hs => hs
  match fl, hs with
  | .ret u, ⟨v, _, H', J, rv, q⟩ => exact ⟨v, H', J.os, J.bare, J.base, J.hok, rv, q⟩
  | .next, ⟨_, H', J, q⟩ => exact ⟨.non, H', J.os, J.bare, J.base, J.hok, rfl, q⟩
  | .brk, ⟨_, _, _, q⟩ => exact q.elim
  | .cont, ⟨_, _, _, q⟩ => exact q.elim
end
/-- the end of a row: the law's own promise at a list of ints -/
theorem walkG {l : PySem.W.OpenLaw} {n k : Nat} {q : Program} {loose : List Str} {XP : (Str → Option Value) → Heap → Prop} {YP : World → Heap → Prop} {d : DefRec} {K : Params → PySem.W.Frag} {sp : PySem.W.Frag → Sp} {x : Str}
    (hn : l.most = some n) (hn2 : n ≤ sizeLine) (hdf : d.params.defaults = []) (hr : Room k callerA) (hY : ∀ (w : World) (h : Heap), YP w h → (K w.params).In h)
    (F : ∀ (w : World) (mg : Str → Option Value) (fa : Addr) (h : Heap), (K w.params).In h → h.Ns mainGlobals mg → mg d.name = some (.ref fa) →
      ∃ fd : FuncData, (∀ (s : Shared) (u : Value), BindsTo s fd ⟨[u], []⟩ [(x, u)]) ∧ ∀ base : Heap, (K w.params).In base → base.Ns mainGlobals mg → FnG l.prog w (K w.params) mg base k fa fd [x] (sp (K w.params)))
    (hsp : ∀ (K : PySem.W.Frag) (H : Hp) (a : Addr) (ns : List Int), ns.length ≤ n → (Rd H a (.lst (ns.map V.int)) ∨ ∀ H, SqL K H a (ns.map V.int)) → sp K [.ref a] H (fun v _ => v = .bl true) fun _ _ _ => False) :
    PySem.W.WalkO q loose XP YP l.row.toRowW d [] (fun f vs => PySem.call f vs) := by
  refine Att.attach_call hn hdf fun w s0 s1 mg mb fa o pm cd doc a vs ns G Y ho hd hcd hmg ha hi hlen hg => ?_
  have KX := hY w _ Y
  obtain ⟨fd, hbind, hF⟩ := F w mg fa _ KX G.T.g hmg
  -- the script is tracked as it stands, unless it is an object of the text's own
  let O : Obj := { cls := .type "list", data := .seq vs.toArray }
  let H : Hp := fun b => if b = a ∧ (K w.params).lookup a = none then some (.frz O (.lst (ns.map V.int))) else none
  have only : ∀ b u, H b = some u → b = a ∧ (K w.params).lookup a = none ∧ u = .frz O (.lst (ns.map V.int)) := fun b u e => by
    have e : (if b = a ∧ (K w.params).lookup a = none then some (HO.frz O (.lst (ns.map V.int))) else none) = some u := e
    split at e
    · rename_i h
      cases e
      exact ⟨h.1, h.2, rfl⟩
    · cases e
  have rv := vals_ints hi
  have hlen' : (ns.map V.int).length ≤ sizeLine := by rw [List.length_map]; exact Nat.le_trans hlen hn2
  have hok : HOk l.prog w H s1.heap := fun b u e => by
    obtain ⟨rfl, _, rfl⟩ := only b u e
    exact ⟨ha, hlen', vs, _, rv, ha⟩
  have free : ∀ {b : Addr} {ob : Obj}, s1.heap.get? b = some ob → ob ≠ O → H b = none := fun {b ob} e ne => by
    cases h : H b with
    | none => rfl
    | some u =>
      obtain ⟨rfl, _⟩ := only b u h
      rw [ha] at e
      exact absurd (Option.some.inj e).symm ne
  have ns' : ∀ {b : Addr} {m : Str → Option Value}, s1.heap.Ns b m → (hidT s1.heap H).Ns b m := fun {b m} ⟨ob, es, ep, e, dd, r⟩ => ⟨ob, es, ep, hidT_get e (free e fun z => by
    rw [z] at dd
    have dd : Data.seq vs.toArray _ = Data.dict es ep := dd
    cases dd), dd, r⟩
  have kb : (K w.params).In (hidT s1.heap H) := fun b ob e => hidT_get (KX b ob e) (by
    cases h : H b with
    | none => rfl
    | some u =>
      obtain ⟨rfl, hk, _⟩ := only b u h
      rw [hk] at e
      cases e)
  have hM : Mod (K w.params) mg (hidT s1.heap H) := ⟨kb, ns' G.T.g, ⟨mb, ns' G.T.b, G.T.builtins⟩, let ⟨mc, h1, h2⟩ := G.T.nolimit; ⟨mc, ns' h1, h2⟩⟩
  have e0 : Env0 l.prog w (K w.params) mg (hidT s1.heap H) callerA [] s1 H := ⟨rfl, hM, fun b ob e => of_hidT e, Nat.le_of_eq (hidT_size _ _), trivial, fun b hb => (by cases hb), hok, .of_eq hg⟩
  have start : Rd H a (.lst (ns.map V.int)) ∨ ∀ H, SqL (K w.params) H a (ns.map V.int) := by
    cases hk : (K w.params).lookup a with
    | none => exact .inl (.inr ⟨O, if_pos ⟨rfl, hk⟩⟩)
    | some ob =>
      have e := KX a ob hk
      rw [ha] at e
      cases e
      exact .inr fun _ => .inr ⟨_, vs.toArray, _, hk, rfl, rfl, rfl, by rw [List.size_toArray, hi.length]; exact Nat.le_trans hlen hn2, by simpa using rv⟩
  refine codeAny_mono ((hF _ kb (ns' G.T.g)).run callerA [] s1 H ⟨[.ref a], []⟩ [.ref a] [.ref a] _ _ hr rfl e0 (hbind s1 (.ref a)) (.cons rfl .nil) (hsp (K w.params) H a ns hlen start)) fun r s' h => ?_
  match r, h with
  | .error e, h =>
    obtain ⟨_, _, _, _, _, _, _, _, _, _, _, _, z⟩ := h
    exact z.elim
  | .ok (.ret u), ⟨v, H', os, bare, un, hok', r', e⟩ =>
    have e : v = .bl true := e
    subst e
    obtain rfl : u = Value.bool true := r'
    refine ⟨rfl, OldK.of_keep fun b ob e => ?_, os, bare⟩
    cases h : H b with
    | none => exact un.keep b ob e h (by intro z; cases z) (by intro z; cases z)
    | some u =>
      obtain ⟨rfl, _, rfl⟩ := only b u h
      obtain ⟨e2, _⟩ := hok' _ _ (un.frzs _ O _ h)
      rw [ha] at e
      cases e
      exact e2
end Fx

set_option Elab.async false
set_option linter.all false
set_option maxRecDepth 100000
namespace Fx
open PySem L2 PyProof.Rows
/-! ### defs -/
inductive FR where
  | ret (d : D) (io : MO) | retn (ds : List D) (io : MO) | er (x : XD) (io : MO) | no
def ioM (io : Bool) (vs : List V) : MS := fun b => io = true ∧ ∃ r, vs = .ref b :: r
def ArgR (K : PySem.W.Frag) (M : MS) (H : Hp) (io : Bool) (vs : List V) (ds : List D) : Prop := match io with
  | false => RpL K M H vs ds
  | true => ∃ (a : Addr) (xs : HO) (as : MO) (r : List V) (dr : List D), vs = .ref a :: r ∧ ds = as.d :: dr ∧ H a = some xs ∧ M a ∧ MR K M H xs as ∧ RpL K M H r dr
def IoR (K : PySem.W.Frag) (M : MS) (H : Hp) (io : Bool) (vs : List V) (ios : MO) : Prop := io = true → ∃ (a : Addr) (r : List V) (xs : HO), vs = .ref a :: r ∧ H a = some xs ∧ MR K M H xs ios
def PostF (K : PySem.W.Frag) (M : MS) (H : Hp) (io : Bool) (vs : List V) (r : FR) (Q : VK) (E : XK) : Prop := match r with
  | .ret d ios => ∀ v H', Step (ioM io vs) H H' → IoR K M H' io vs ios → Rp K M H' v d → Q v H'
  | .retn ds ios => ∀ p xs H', Step (ioM io vs) H H' → H p = none → H' p = some (.lst xs) → IoR K (With M p) H' io vs ios → RpL K (With M p) H' xs ds → Q (.ref p) H'
  | .er x ios => ∀ cls od H', Step (ioM io vs) H H' → IoR K M H' io vs ios → XR K M H' cls od x → E cls od H'
  | .no => False
def spF (K : PySem.W.Frag) (io : Bool) (n : Nat) (F : List D → FR) : Sp := fun vs H Q E => vs.length = n ∧ ∃ M ds, MOk M H ∧ ArgR K M H io vs ds ∧ PostF K M H io vs (F ds) Q E
def startS (N : Nat) (io : Bool) (ds : List D) : List Sl := match io, ds with
  | true, .lst as :: r => .io (.l as) :: (r.map .va ++ List.replicate (N - 1 - r.length) .un)
  | true, .ins n fs :: r => .io (.i n fs) :: (r.map .va ++ List.replicate (N - 1 - r.length) .un)
  | _, ds => ds.map .va ++ List.replicate (N - ds.length) .un
def ioOf (io : Bool) (s : List Sl) : MO := match io, s[0]? with
  | true, some (Sl.io ds) => ds
  | _, _ => .l []
def outF (io : Bool) (o : Out) : FR := match o with
  | .nx s => .ret .non (ioOf io s)
  | .rt d s => .ret d (ioOf io s)
  | .rn ds s => .retn ds (ioOf io s)
  | .er x s => .er x (ioOf io s)
  | _ => .no
def bodyF (N : Nat) (io : Bool) (g : G) (ds : List D) : FR := outF io (g (startS N io ds))
section
variable {K : PySem.W.Frag} {M : MS} {H : Hp} {vs : List V} {ds : List D}
theorem start_va {n : Nat} {i : Nat} {d : D} (h : (ds.map Sl.va ++ List.replicate n .un)[i]? = some (.va d)) : ds[i]? = some d := by
  by_cases hi : i < ds.length
  · rw [List.getElem?_append_left (by simpa using hi), List.getElem?_map] at h
    cases e : ds[i]? with
    | none => rw [e] at h; cases h
    | some x => rw [e] at h; cases h; rfl
  · rw [List.getElem?_append_right (by simpa using hi), List.getElem?_replicate] at h
    split at h <;> cases h
theorem start_no {n : Nat} {i : Nat} {x : Sl} (h : (ds.map Sl.va ++ List.replicate n .un)[i]? = some x) : x = .un ∨ ∃ d, x = .va d := by
  by_cases hi : i < ds.length
  · rw [List.getElem?_append_left (by simpa using hi), List.getElem?_map] at h
    cases e : ds[i]? with
    | none => rw [e] at h; cases h
    | some x => rw [e] at h; cases h; exact .inr ⟨_, rfl⟩
  · rw [List.getElem?_append_right (by simpa using hi), List.getElem?_replicate] at h
    split at h
    · cases h; exact .inl rfl
    · cases h
theorem start_get {n : Nat} {i : Nat} {v : V} (h : vs[i]? = some v) : (vs.map some ++ List.replicate n none)[i]? = some (some v) := by
  rw [List.getElem?_append_left (by rw [List.length_map]; exact (List.getElem?_eq_some_iff.mp h).1), List.getElem?_map, h]
  rfl
/-- the slots at a def's entry -/
theorem SR.enter {io : Bool} {N : List Str} (m : MOk M H) (a : ArgR K M H io vs ds) (hl : vs.length ≤ N.length) : ∃ pa, SR ⟨K, H, M, pa, fun _ => none⟩ M (L2.start N vs) H (startS N.length io ds) ∧ (∀ b, pa = some b ↔ ioM io vs b) := by
  cases io with
  | false =>
    have a : RpL K M H vs ds := a
    have e : startS N.length false ds = ds.map .va ++ List.replicate (N.length - ds.length) .un := by unfold startS; rfl
    refine ⟨none, ?_, fun b => ⟨fun z => by (cases z), fun z => by (cases z.1)⟩⟩
    rw [e]
    exact {
      va := fun i d h => by
        obtain ⟨v, hv, q⟩ := a.get (start_va h)
        exact ⟨v, start_get hv, q⟩
      ow := fun i d h => by rcases start_no h with z | ⟨_, z⟩ <;> cases z
      io := fun i d h => by rcases start_no h with z | ⟨_, z⟩ <;> cases z
      pa := fun b hb => by cases hb
      ne := fun i j d1 d2 b n h1 => by rcases start_no h1 with z | ⟨_, z⟩ <;> cases z
      mo := m
      up := fun _ z => z
      dn := fun _ z => .inl z
      st := .rfl
      bm := m
      lk := fun b o e => by cases e
      len := by
        have := a.length
        unfold L2.start
        simp only [List.length_append, List.length_map, List.length_replicate]
        omega }
  | true =>
    obtain ⟨a0, xs, as, r, dr, rfl, rfl, hx, hm, q1, q2⟩ := a
    have e : startS N.length true (as.d :: dr) = .io as :: (dr.map .va ++ List.replicate (N.length - 1 - dr.length) .un) := by cases as <;> rfl
    have e2 : L2.start N (.ref a0 :: r) = some (.ref a0) :: (r.map some ++ List.replicate (N.length - (r.length + 1)) none) := by unfold L2.start; rfl
    refine ⟨some a0, ?_, fun b => ⟨fun z => by (cases z; exact ⟨rfl, _, rfl⟩), fun ⟨_, r', z⟩ => by (cases z; rfl)⟩⟩
    rw [e, e2]
    exact {
      va := fun i d h => by
        cases i with
        | zero => cases h
        | succ i =>
          obtain ⟨v, hv, q⟩ := q2.get (start_va h)
          exact ⟨v, start_get hv, q⟩
      ow := fun i d h => by
        cases i with
        | zero => cases h
        | succ i => rcases start_no h with z | ⟨_, z⟩ <;> cases z
      io := fun i d h => by
        cases i with
        | zero =>
          cases h
          exact ⟨rfl, a0, xs, rfl, rfl, hx, hm, q1⟩
        | succ i => rcases start_no h with z | ⟨_, z⟩ <;> cases z
      pa := fun b hb => by
        cases hb
        exact ⟨hm, as, rfl⟩
      ne := fun i j d1 d2 b n h1 => by
        cases i with
        | zero => cases h1
        | succ i => rcases start_no h1 with z | ⟨_, z⟩ <;> cases z
      mo := m
      up := fun _ z => z
      dn := fun _ z => .inl z
      st := .rfl
      bm := m
      lk := fun b o e => by cases e
      len := by
        have := q2.length
        simp only [List.length_cons, List.length_append, List.length_map, List.length_replicate]
        have hl : r.length + 1 ≤ N.length := hl
        omega }
theorem SR.leave {io : Bool} {pa : Option Addr} {M' : MS} {σ' : L2.St} {H' : Hp} {s' : List Sl} (r : SR ⟨K, H, M, pa, fun _ => none⟩ M' σ' H' s') (hp : ∀ b, pa = some b ↔ ioM io vs b) (ha : ArgR K M H io vs ds) : Step (ioM io vs) H H' ∧ Sub M M' ∧
    IoR K M' H' io vs (ioOf io s') := by
  refine ⟨fun b o e n => r.st b o e fun z => n ((hp b).mp z), r.up, fun hio => ?_⟩
  subst hio
  by_cases h : ∃ b, pa = some b
  · obtain ⟨b, hb⟩ := h
    obtain ⟨_, rr, e⟩ := (hp b).mp hb
    obtain ⟨_, ds, h1⟩ := r.pa b hb
    obtain ⟨_, a, xs, h2, h3, h4, h5, h6⟩ := r.io 0 ds h1
    have h2 : pa = some a := h2
    rw [hb] at h2
    cases h2
    refine ⟨b, rr, xs, e, h4, ?_⟩
    unfold ioOf
    rw [h1]
    exact h6
  · obtain ⟨b, _, _, r', _, e, _⟩ := ha
    exact absurd ⟨b, (hp b).mpr ⟨rfl, r', e⟩⟩ h
theorem XR.sub {M' : MS} {cls : Value} {od : Option Addr} {x : XD} (m : MOk M' H) (s : Sub M M') (h : XR K M' H cls od x) : XR K M H cls od x := by
  obtain ⟨C, hC, h1, h2⟩ := h
  refine ⟨C, hC, h1, h2.imp id fun ⟨d, ws, e1, e2, e3, e4⟩ => ⟨d, ws, e1, e2, e3, e4.move m (.sub s)⟩⟩
/-- a def's body, run -/
theorem body_run {X : Cx} {N : List Str} {io : Bool} {body : List Stmt} {g : G} {E : XK} {Q : VK} (hK : X.K = K) (m : MOk M H) (a : ArgR K M H io vs ds) (hl : vs.length ≤ N.length)
    (h : ∀ B : Bs, B.K = K → SSs X B (fun cls d _ H => E cls d H) body g) (p : PostF K M H io vs (bodyF N.length io g ds) Q E) :
    ∃ t, PSs X body t ∧ t { nx := fun _ H' => Q .non H', rt := Q } (L2.start N vs) H := by
  obtain ⟨pa, r, hp⟩ := SR.enter (N := N) m a hl
  refine ⟨_, h ⟨K, H, M, pa, fun _ => none⟩ rfl, M, startS N.length io ds, r, ?_⟩
  unfold bodyF at p
  revert p
  cases g (startS N.length io ds) with
  | nx s =>
    intro p σ' H' M' r' ev
    obtain ⟨h1, h2, h3⟩ := r'.leave hp a
    refine p .non H' h1 (fun z => ?_) .non
    obtain ⟨b, rr, xs, e1, e2, e3⟩ := h3 z
    exact ⟨b, rr, xs, e1, e2, e3.move r'.mo (.sub h2)⟩
  | rt d s =>
    intro p v σ' H' M' r' q ev
    obtain ⟨h1, h2, h3⟩ := r'.leave hp a
    refine p v H' h1 (fun z => ?_) (Rp.move r'.mo (.sub h2) q)
    obtain ⟨b, rr, xs, e1, e2, e3⟩ := h3 z
    exact ⟨b, rr, xs, e1, e2, e3.move r'.mo (.sub h2)⟩
  | rn es s =>
    intro p b σ' H' M' r' q ev
    obtain ⟨h1, h2, h3⟩ := r'.leave hp a
    obtain ⟨xs, q1, q2, q3, q4, q5⟩ := q
    have sb : Sub (With M b) M' := fun c z => z.elim (h2 c) fun z => by rw [z]; exact q2
    refine p b xs H' h1 q3 q1 (fun z => ?_) (q4.move r'.mo (.sub sb))
    obtain ⟨b2, rr, xs, e1, e2, e3⟩ := h3 z
    exact ⟨b2, rr, xs, e1, e2, e3.move r'.mo (.sub sb)⟩
  | er x s =>
    intro p cls od σ' H' M' r' q
    obtain ⟨h1, h2, h3⟩ := r'.leave hp a
    refine p cls od H' h1 (fun z => ?_) (q.sub r'.mo h2)
    obtain ⟨b2, rr, xs, e1, e2, e3⟩ := h3 z
    exact ⟨b2, rr, xs, e1, e2, e3.move r'.mo (.sub h2)⟩
  | bk s => exact fun p => p.elim
  | ct s => exact fun p => p.elim
  | no => exact fun p => p.elim
end
section
variable {P : Program} {w : World} {K : PySem.W.Frag} {mg : Str → Option Value} {base : Heap}
/-- the context of the def st's body -/
abbrev cxD (P : Program) (w : World) (K : PySem.W.Frag) (mg : Str → Option Value) (base : Heap) (N : List Str) (qual : Str) (sc : Scope) (f : Addr) (cdv : Value) (A : Around) (outer : List Env) (s : Shared) (H : Hp) (E : XK) : Cx := cxOf (L2.CX P w) P w K mg base N qual sc f cdv A outer s H E
theorem fn_mk {x qual : Str} {st : Stmt} {f : Addr} {fd : FuncData} {N ps : List Str} {k : Nat} {io : Bool} {g : G} (F : Fun K x qual st f fd) (S : FnScope N ps (defScope st))
    (h : ∀ (cdv : Value) (A : Around) (outer : List Env) (s : Shared) (H : Hp) (E : XK), Room k (cxD P w K mg base N qual (defScope st) f cdv A outer s H E).A → (cxD P w K mg base N qual (defScope st) f cdv A outer s H E).A.guards = some [] →
      ∀ B : Bs, B.K = K → SSs (cxD P w K mg base N qual (defScope st) f cdv A outer s H E) B (fun cls d _ H => E cls d H) (defBody st) g) :
    FnG P w K mg base (k + 1) f fd ps (spF K io ps.length (bodyF N.length io g)) := by
  obtain ⟨oc, od, kV, doc, pm, an, cdv, ct, osl, rfl, lk, hcd⟩ := F.ex
  refine FnG.of lk hcd S (fun vs H Q E h => h.1) fun A outer s H vs Q E hr hgd ⟨hl, M, ds, m, a, p⟩ => ?_
  have hp : ps.length ≤ N.length := by
    have := congrArg List.length S.pre
    rw [List.length_take] at this
    omega
  exact body_run (X := cxD P w K mg base N qual (defScope st) f cdv A outer s H E) rfl m a (by rw [hl]; exact hp) (h cdv A outer s H E hr hgd) p
end

/-! ### calls -/
section
variable {X : Cx} {B : Bs} {W : WX} {k n : Nat} {f : Addr} {fd : FuncData} {ps ks : List Str} {sp : Sp} {E : L2.St → XK} {x : Str} {p pos : Pos} {e : Expr} {es : List Expr} {kws : List Keyword} {t tk : TA} {g : List Value → List Value → List Value} {gV : List V → List V → List V}
theorem run_fnT {pins : List (Addr × Obj)} {σ : L2.St} {H : Hp} {s : Shared} {Q : VK} {us ws : List Value} {vs zs : List V} (F : FnG X.prog X.w X.K X.mg X.base k f fd ps sp) (hr : Room k X.A) (hq : X.A.guards = some []) (hb : KBinds X.K fd ps ks g gV) (hx : PassesAt (L2.CX X.prog X.w) X σ (E σ))
    (I : Inv X pins σ H s) (r : Vals vs us) (rz : Vals zs ws) (h : sp (gV vs zs) H Q (E σ)) : wpAny (model X.prog X.w) X.A (call (.ref f) us (ks.zip ws)) (EP X pins σ Q) X.xe s := by
  have r2 := hb.rel r rz
  have hl : (g us ws).length = ps.length := by rw [← r2.length]; exact F.len _ _ _ _ h
  refine wpAny_call (codeAny_mono (F.run X.A X.stack s H ⟨us, ks.zip ws⟩ (g us ws) (gV vs zs) Q (E σ) hr hq I.env0 (hb.to s us ws I.kIn hl) r2 h) fun r s' hq => ?_)
  cases r with
  | error e => exact hx pins H s e s' I hq
  | ok fl =>
    cases fl with
    | ret u => exact I.after hq
    | next => exact False.elim hq
    | brk => exact False.elim hq
    | cont => exact False.elim hq
def tCallT (sp : Sp) (gV : List V → List V → List V) (E : L2.St → XK) (t tk : TA) : TE := fun σ H Q => t σ H fun vs H1 => tk σ H1 fun zs H2 => sp (gV vs zs) H2 Q (E σ)
/-- f(e, ..) -/
theorem pe_callT (F : FnG X.prog X.w X.K X.mg X.base k f fd ps sp) (hr : Room k X.A) (hq : X.A.guards = some []) (hg : Gl X x) (hm : X.mg x = some (.ref f)) (hk : PySem.W.keepIn X.K (.ref f) = true) (hb : KBinds X.K fd ps [] g gV) (hx : ∀ σ, PassesAt (L2.CX X.prog X.w) X σ (E σ))
    (ha : PA X (e :: es) t) (hdb : (x == ("__debug__" : Str)) = false := by decide) (he : starEach (e :: es) X.env = (false, eval e X.env) :: starEach es X.env := by rfl) (hpl : (backTo pos (starEach es X.env)).any (·.1) = false := by rfl) :
    PE X (.Call (.Name x p) (e :: es) [] pos) (tCallT sp gV E t tNil) := by
  refine ⟨fun pins s σ H Q I h => ?_⟩
  refine wpAny_Call_Name_kw (ld_glob I hg hm ?_ hdb)
  refine PySem.W.callWith_K (h₀ := X.base) I.ok.mod.kin hk (thn (ha.run pos pins s σ H _ I h) fun us s1 ⟨vs, H1, I1, r, q⟩ => ⟨I1.kIn, ?_⟩) he hpl
  exact run_fnT (ks := []) (ws := []) (zs := []) F hr hq hb (hx σ) I1 r .nil q
/-- f() -/
theorem pe_callT0 (F : FnG X.prog X.w X.K X.mg X.base k f fd ps sp) (hr : Room k X.A) (hq : X.A.guards = some []) (hg : Gl X x) (hm : X.mg x = some (.ref f)) (hk : PySem.W.keepIn X.K (.ref f) = true) (hb : KBinds X.K fd ps [] g gV) (hx : ∀ σ, PassesAt (L2.CX X.prog X.w) X σ (E σ))
    (hdb : (x == ("__debug__" : Str)) = false := by decide) : PE X (.Call (.Name x p) [] [] pos) (tCallT sp gV E tNil tNil) := by
  refine ⟨fun pins s σ H Q I h => ?_⟩
  refine wpAny_Call_Name_kw (ld_glob I hg hm ?_ hdb)
  exact PySem.W.callWith_K0 I.kIn hk (run_fnT (us := []) (vs := []) (ks := []) (ws := []) (zs := []) F hr hq hb (hx σ) I .nil .nil h)
/-- f(e, .., k = v, ..) -/
theorem pe_callTK (F : FnG X.prog X.w X.K X.mg X.base k f fd ps sp) (hr : Room k X.A) (hq : X.A.guards = some []) (hg : Gl X x) (hm : X.mg x = some (.ref f)) (hk : PySem.W.keepIn X.K (.ref f) = true) (hb : KBinds X.K fd ps ks g gV) (hx : ∀ σ, PassesAt (L2.CX X.prog X.w) X σ (E σ))
    (ha : PA X (e :: es) t) (hkw : PK X kws tk) (hall : (backToKw pos (keywordEach kws X.env)).all (·.1.isSome) = true := by rfl) (hks : (backToKw pos (keywordEach kws X.env)).filterMap (·.1) = ks := by rfl)
    (hdb : (x == ("__debug__" : Str)) = false := by decide) (he : starEach (e :: es) X.env = (false, eval e X.env) :: starEach es X.env := by rfl)
    (hpl : ((backTo pos (starEach (e :: es) X.env)).any (·.1) || (backToKw pos (keywordEach kws X.env)).any (·.1.isNone)) = false := by rfl) :
    PE X (.Call (.Name x p) (e :: es) kws pos) (tCallT sp gV E t tk) := by
  refine ⟨fun pins s σ H Q I h => ?_⟩
  refine wpAny_Call_Name_kw (ld_glob I hg hm ?_ hdb)
  refine PySem.W.callWith_KW (h₀ := X.base) I.ok.mod.kin hk hall (thn (ha.run pos pins s σ H _ I h) fun us s1 ⟨vs, H1, I1, r, q⟩ => ?_) hpl he
  refine thn (hkw.run pos pins s1 σ H1 _ I1 q) fun ws s2 ⟨zs, H2, I2, rz, q2⟩ => ⟨I2.kIn, ?_⟩
  rw [hks]
  exact run_fnT F hr hq hb (hx σ) I2 r rz q2
/-- f(k = v, ..) -/
theorem pe_callTK0 (F : FnG X.prog X.w X.K X.mg X.base k f fd ps sp) (hr : Room k X.A) (hq : X.A.guards = some []) (hg : Gl X x) (hm : X.mg x = some (.ref f)) (hk : PySem.W.keepIn X.K (.ref f) = true) (hb : KBinds X.K fd ps ks g gV) (hx : ∀ σ, PassesAt (L2.CX X.prog X.w) X σ (E σ))
    (hkw : PK X kws tk) (hall : (backToKw pos (keywordEach kws X.env)).all (·.1.isSome) = true := by rfl) (hks : (backToKw pos (keywordEach kws X.env)).filterMap (·.1) = ks := by rfl)
    (hdb : (x == ("__debug__" : Str)) = false := by decide)
    (hpl : ((backTo pos (starEach [] X.env)).any (·.1) || (backToKw pos (keywordEach kws X.env)).any (·.1.isNone)) = false := by rfl) :
    PE X (.Call (.Name x p) [] kws pos) (tCallT sp gV E tNil tk) := by
  refine ⟨fun pins s σ H Q I h => ?_⟩
  refine wpAny_Call_Name_kw (ld_glob I hg hm ?_ hdb)
  refine PySem.W.callWith_KW0 (h₀ := X.base) I.ok.mod.kin hk hall (thn (hkw.run pos pins s σ H _ I h) fun ws s2 ⟨zs, H2, I2, rz, q2⟩ => ⟨I2.kIn, ?_⟩) hpl
  rw [hks]
  exact run_fnT (us := []) (vs := []) F hr hq hb (hx σ) I2 .nil rz q2

/-! ### .. by functions on data -/
def ofFR (r : FR) (u : MO → List Sl) : R D := match r with
  | .ret d ios => .ok d (u ios)
  | .retn ds ios => .ok (.lst ds) (u ios)
  | .er x ios => .er x (u ios)
  | .no => .no
def ofFRN (r : FR) (u : MO → List Sl) : R (List D) := match r with
  | .retn ds ios => .ok ds (u ios)
  | .er x ios => .er x (u ios)
  | _ => .no
def SK (X : Cx) (B : Bs) (W : WX) (kws : List Keyword) (f : F (List D)) : Prop := PK X kws (tP B W (rhoL B) f)
theorem PK.imp {kws : List Keyword} {t u : TA} (h : PK X kws t) (k : ∀ σ H Q, u σ H Q → t σ H Q) : PK X kws u := ⟨fun pos pins s σ H Q I q => h.run pos pins s σ H Q I (k σ H Q q)⟩
theorem sk_nil : SK X B W [] nilF := PK.imp pk_nil fun σ H Q ⟨M, s, r, p⟩ => p.out r .nil
theorem sk_cons {nm : Option Str} {kpos : Pos} {f : F D} {kk : F (List D)} (ha : SE X B W e f) (hr : SK X B W kws kk) : SK X B W (⟨nm, e, kpos⟩ :: kws) (consF f kk) := by
  refine PK.imp (pk_cons ha hr) fun σ H Q ⟨M, s, r, p⟩ => ?_
  exact ⟨M, s, r, Post.bind p fun x s1 M1 H1 v r1 q1 ev1 p1 => ⟨M1, s1, r1, Post.bind p1 fun xs s2 M2 H2 vs r2 q2 ev2 p2 => p2.out r2 (.cons (q1.move r1.mo ev2) q2)⟩⟩
/-- a new list that a callee has handed out -/
theorem SR.got {M : MS} {σ : L2.St} {H H' : Hp} {s : List Sl} {p : Addr} {xs : List V} (r : SR B M σ H s) (e : H p = none) (g : Same H H') (hp : H' p = some (.lst xs)) : SR B (With M p) σ H' s :=
  (r.laid (xs := xs) e).grow fun b o h => by
    by_cases hb : b = p
    · subst hb; rw [upd_same] at h; rw [hp]; exact h
    · rw [upd_ne hb] at h; exact g b o h
theorem same_of {io : Bool} {vs : List V} {H H' : Hp} (hio : io = false) (st : Step (ioM io vs) H H') : Same H H' := fun b o e => st b o e fun z => by rw [hio] at z; cases z.1
def GD (K : PySem.W.Frag) (gV : List V → List V → List V) (gD : List D → List D → List D) : Prop := ∀ (M : MS) (H : Hp) (vs zs : List V) (ds es : List D), RpL K M H vs ds → RpL K M H zs es → RpL K M H (gV vs zs) (gD ds es)
def callF (Fn : List D → FR) (n : Nat) (gD : List D → List D → List D) (k kk : F (List D)) : F D := fun s => (k s).bind fun ds s1 => (kk s1).bind fun es s2 => if (gD ds es).length = n then ofFR (Fn (gD ds es)) (fun _ => s2) else .no
def callN (Fn : List D → FR) (n : Nat) (gD : List D → List D → List D) (k kk : F (List D)) : F (List D) := fun s => (k s).bind fun ds s1 => (kk s1).bind fun es s2 => if (gD ds es).length = n then ofFRN (Fn (gD ds es)) (fun _ => s2) else .no
theorem mok_with {M : MS} {H : Hp} {p : Addr} {xs : List V} (m : MOk M H) (h : H p = some (.lst xs)) : MOk (With M p) H := fun b z => z.elim (m b) fun z => by rw [z, h]; exact trivial
theorem call_read {Fn : List D → FR} {gD : List D → List D → List D} {ka kk : F (List D)} {σ : L2.St} {H : Hp} {Q : VK} {ta tk : TA} (hg : GD B.K gV gD)
    (ha : ∀ Q, tP B W (rhoL B) ka σ H Q → ta σ H Q) (hk : ∀ H Q, tP B W (rhoL B) kk σ H Q → tk σ H Q) (h : tP B W (rhoD B) (callF Fn n gD ka kk) σ H Q) : tCallT (spF B.K false n Fn) gV (WE W) ta tk σ H Q := by
  obtain ⟨M, s, r, p⟩ := h
  refine ha _ ⟨M, s, r, Post.bind p fun ds s1 M1 H1 vs r1 q1 ev1 p1 => hk _ _ ⟨M1, s1, r1, Post.bind p1 fun es s2 M2 H2 zs r2 q2 ev2 p2 => ?_⟩⟩
  split at p2
  case isFalse => exact p2.elim
  case isTrue hn =>
  have ql := hg M2 H2 vs zs ds es (q1.move r1.mo ev2) q2
  refine ⟨ql.length.trans hn, M2, gD ds es, r2.mo, ql, ?_⟩
  revert p2
  cases Fn (gD ds es) with
  | ret d ios => exact fun p2 v H' st _ q => p2.grow r2 (same_of rfl st) q
  | retn es ios => exact fun p2 a xs H' st hn hp _ q => p2.grow r2 (same_of rfl st) (.lst hp (r2.mo.there hn) (q.move (mok_with (r2.mo.same (same_of rfl st)) hp) (.sub fun _ z => .inl z)))
  | er x ios => exact fun p2 cls od H' st _ q => p2 cls od H' M2 (r2.grow (same_of rfl st)) q
  | no => exact fun p2 => p2
theorem callN_read {Fn : List D → FR} {gD : List D → List D → List D} {ka kk : F (List D)} {σ : L2.St} {H : Hp} {Q : VK} {ta tk : TA} (hg : GD B.K gV gD)
    (ha : ∀ Q, tP B W (rhoL B) ka σ H Q → ta σ H Q) (hk : ∀ H Q, tP B W (rhoL B) kk σ H Q → tk σ H Q) (h : tN B W (callN Fn n gD ka kk) σ H Q) : tCallT (spF B.K false n Fn) gV (WE W) ta tk σ H Q := by
  obtain ⟨M, s, r, p⟩ := h
  refine ha _ ⟨M, s, r, PostN.bind p fun ds s1 M1 H1 vs r1 q1 ev1 p1 => hk _ _ ⟨M1, s1, r1, PostN.bind p1 fun es s2 M2 H2 zs r2 q2 ev2 p2 => ?_⟩⟩
  split at p2
  case isFalse => exact p2.elim
  case isTrue hn =>
  have ql := hg M2 H2 vs zs ds es (q1.move r1.mo ev2) q2
  refine ⟨ql.length.trans hn, M2, gD ds es, r2.mo, ql, ?_⟩
  revert p2
  cases Fn (gD ds es) with
  | ret d ios => exact fun p2 => p2.elim
  | retn es ios =>
    intro p2 a xs H' st hn hp _ q
    have hL : B.L a = none := by
      cases h : B.L a with
      | none => rfl
      | some o =>
        have := (r2.lk a o h).2.1
        rw [hn] at this
        cases this
    have rr := r2.got hn (same_of rfl st) hp
    refine p2 a H' _ rr ⟨xs, hp, .inr rfl, ?_, q, hL, r2.noOw hn⟩ ⟨fun c z => z.elim .inl fun z => .inr (z ▸ hn), .same (same_of rfl st)⟩
    rcases rr.dn a (.inr rfl) with z | z
    · exact absurd (r2.up a z) (r2.mo.there hn)
    · exact z
  | er x ios => exact fun p2 cls od H' st _ q => p2 cls od H' M2 (r2.grow (same_of rfl st)) q
  | no => exact fun p2 => p2
/-- the arguments in the parameters' order: us by place, ws by name, ds the defaults -/
def pickG {α : Type} (n1 n2 : Nat) (ds : List α) (idx : List Nat) (us ws : List α) : List α := if us.length = n1 ∧ ws.length = n2 then idx.filterMap (fun i => (us ++ ws ++ ds)[i]?) else []
theorem pick_paired {α β : Type} {R : α → β → Prop} {xs : List α} {ys : List β} (h : ∀ i : Nat, (∃ x y, xs[i]? = some x ∧ ys[i]? = some y ∧ R x y) ∨ (xs[i]? = none ∧ ys[i]? = none)) : ∀ idx : List Nat, Paired R (idx.filterMap fun i => xs[i]?) (idx.filterMap fun i => ys[i]?)
  | [] => .nil
  | i :: idx => by
    rcases h i with ⟨x, y, e1, e2, r⟩ | ⟨e1, e2⟩
    · rw [List.filterMap_cons_some e1, List.filterMap_cons_some e2]
      exact .cons r (pick_paired h idx)
    · rw [List.filterMap_cons_none e1, List.filterMap_cons_none e2]
      exact pick_paired h idx
theorem vals_at {xs : List V} {us : List Value} (r : Vals xs us) (i : Nat) : (∃ x y, xs[i]? = some x ∧ us[i]? = some y ∧ RelV x y) ∨ (xs[i]? = none ∧ us[i]? = none) := by
  cases e : xs[i]? with
  | none => exact .inr ⟨rfl, Vals.none_of r e⟩
  | some x =>
    obtain ⟨u, h1, h2⟩ := Vals.get r e
    exact .inl ⟨x, u, rfl, h1, h2⟩
theorem pick_vals {n1 n2 : Nat} {dvs : List V} {ds : List Value} {idx : List Nat} (hd : Vals dvs ds) {vs zs : List V} {us ws : List Value} (h1 : Vals vs us) (h2 : Vals zs ws) : Vals (pickG n1 n2 dvs idx vs zs) (pickG n1 n2 ds idx us ws) := by
  unfold pickG
  rw [h1.length, h2.length]
  split
  · exact pick_paired (vals_at ((h1.append h2).append hd)) idx
  · exact .nil
theorem RpL.filterMap {K : PySem.W.Frag} {M : MS} {H : Hp} {xs : List V} {ds : List D} (r : RpL K M H xs ds) : ∀ idx : List Nat, RpL K M H (idx.filterMap fun i => xs[i]?) (idx.filterMap fun i => ds[i]?)
  | [] => .nil
  | i :: idx => by
    cases e : xs[i]? with
    | none =>
      have e2 : ds[i]? = none := by
        have := r.length
        have := List.getElem?_eq_none_iff.mp e
        exact List.getElem?_eq_none_iff.mpr (by omega)
      rw [List.filterMap_cons_none e, List.filterMap_cons_none e2]
      exact r.filterMap idx
    | some v =>
      obtain ⟨d, e2, q⟩ := r.get' e
      rw [List.filterMap_cons_some e, List.filterMap_cons_some e2]
      exact .cons q (r.filterMap idx)
theorem pick_gd {K : PySem.W.Frag} {n1 n2 : Nat} {dvs : List V} {dds : List D} {idx : List Nat} (hd : ∀ M H, RpL K M H dvs dds) : GD K (pickG n1 n2 dvs idx) (pickG n1 n2 dds idx) := fun M H vs zs ds es h1 h2 => by
  unfold pickG
  rw [h1.length, h2.length]
  split
  · exact ((h1.append h2).append (hd M H)).filterMap idx
  · exact .nil
/-- a def that is known, in the context at hand -/
structure Dn (X : Cx) (B : Bs) (W : WX) (x : Str) (io : Bool) (n : Nat) (Fn : List D → FR) (ks : List Str) (gD : List D → List D → List D) : Prop where
  ex : ∃ (k : Nat) (f : Addr) (fd : FuncData) (ps : List Str) (g : List Value → List Value → List Value) (gV : List V → List V → List V), FnG X.prog X.w X.K X.mg X.base k f fd ps (spF B.K io n Fn) ∧ Room k X.A ∧ X.A.guards = some [] ∧ Gl X x ∧ X.mg x = some (.ref f) ∧
    PySem.W.keepIn X.K (.ref f) = true ∧ KBinds X.K fd ps ks g gV ∧ GD B.K gV gD
  tk : Takes X W
/-- a def that is known: its text, its promise -/
structure Kn (P : Program) (w : World) (K : PySem.W.Frag) (mg : Str → Option Value) (base : Heap) (x qual : Str) (st : Stmt) (k : Nat) (io : Bool) (ps : List Str) (Fn : List D → FR) : Prop where
  ex : ∃ (f : Addr) (fd : FuncData), Fun K x qual st f fd ∧ FnG P w K mg base k f fd ps (spF K io ps.length Fn) ∧ mg x = some (.ref f)
/-- how a call of it binds: n1 arguments by place, ks by name -/
theorem Fun.kb {K : PySem.W.Frag} {x qual : Str} {st : Stmt} {f : Addr} {fd : FuncData} {ps ks : List Str} {n1 : Nat} {idx : List Nat} (F : Fun K x qual st f fd) (hp : 0 < ps.length)
    (h : ∀ (kV doc pm : Value) (an : Option Addr) (cdv ct : Value) (us ws : List Value), us.length = n1 → ws.length = ks.length → bindArgs (PySem.W.fnOf x qual (defArgs st) (defBody st) (defScope st) .none kV doc pm an cdv ct) ⟨us, ks.zip ws⟩ = pure (ps.zip (idx.filterMap fun i => (us ++ ws ++ [])[i]?))) :
    KBinds K fd ps ks (pickG n1 ks.length [] idx) (pickG n1 ks.length [] idx) := by
  obtain ⟨oc, od, kV, doc, pm, an, cdv, ct, osl, rfl, lk, hcd⟩ := F.ex
  refine ⟨fun s us ws _ hl => ?_, fun h1 h2 => pick_vals .nil h1 h2⟩
  unfold pickG at hl ⊢
  split at hl
  · rename_i hc
    rw [if_pos hc]
    exact .of_eq (h kV doc pm an cdv ct us ws hc.1 hc.2)
  · exact absurd hl (by simp; omega)
theorem Kn.dn {X : Cx} {B : Bs} {W : WX} {P : Program} {w : World} {K : PySem.W.Frag} {mg : Str → Option Value} {base : Heap} {x qual : Str} {st : Stmt} {k j : Nat} {io : Bool} {ps ks : List Str} {Fn : List D → FR} {n1 : Nat} {idx : List Nat} (kn : Kn P w K mg base x qual st k io ps Fn)
    (hX : X.prog = P ∧ X.w = w ∧ X.K = K ∧ X.mg = mg ∧ X.base = base) (hK : B.K = K) (hr : Room j X.A) (hk : k ≤ j) (hq : X.A.guards = some []) (hg : Gl X x) (tk : Takes X W) (hp : 0 < ps.length)
    (h : ∀ (kV doc pm : Value) (an : Option Addr) (cdv ct : Value) (us ws : List Value), us.length = n1 → ws.length = ks.length → bindArgs (PySem.W.fnOf x qual (defArgs st) (defBody st) (defScope st) .none kV doc pm an cdv ct) ⟨us, ks.zip ws⟩ = pure (ps.zip (idx.filterMap fun i => (us ++ ws ++ [])[i]?))) :
    Dn X B W x io ps.length Fn ks (pickG n1 ks.length [] idx) := by
  obtain ⟨rfl, rfl, rfl, rfl, rfl⟩ := hX
  obtain ⟨f, fd, F, G, hm⟩ := kn.ex
  exact ⟨⟨k, f, fd, ps, _, _, hK ▸ G, hr.mono hk, hq, hg, hm, F.kp, Fun.kb F hp h, pick_gd fun _ _ => .nil⟩, tk⟩
variable {Fn : List D → FR} {gD : List D → List D → List D} {ka kk : F (List D)}
theorem se_call (D : Dn X B W x false n Fn [] gD) (ha : SA X B W (e :: es) ka) (hdb : (x == ("__debug__" : Str)) = false := by decide) (he : starEach (e :: es) X.env = (false, eval e X.env) :: starEach es X.env := by rfl) (hpl : (backTo pos (starEach es X.env)).any (·.1) = false := by rfl) :
    SE X B W (.Call (.Name x p) (e :: es) [] pos) (callF Fn n gD ka nilF) := by
  obtain ⟨⟨k, f, fd, ps, g, gV, F, hr, hq, hg, hm, hk, hb, gd⟩, tk⟩ := D
  exact PE.imp (pe_callT F hr hq hg hm hk hb (passAt tk) ha hdb he hpl) fun σ H Q p => call_read gd (fun _ q => q) (fun H Q ⟨M, s, r, p⟩ => p.out r .nil) p
theorem sn_call (D : Dn X B W x false n Fn [] gD) (ha : SA X B W (e :: es) ka) (hdb : (x == ("__debug__" : Str)) = false := by decide) (he : starEach (e :: es) X.env = (false, eval e X.env) :: starEach es X.env := by rfl) (hpl : (backTo pos (starEach es X.env)).any (·.1) = false := by rfl) :
    SN X B W (.Call (.Name x p) (e :: es) [] pos) (callN Fn n gD ka nilF) := by
  obtain ⟨⟨k, f, fd, ps, g, gV, F, hr, hq, hg, hm, hk, hb, gd⟩, tk⟩ := D
  exact PE.imp (pe_callT F hr hq hg hm hk hb (passAt tk) ha hdb he hpl) fun σ H Q p => callN_read gd (fun _ q => q) (fun H Q ⟨M, s, r, p⟩ => p.out r .nil) p
theorem se_call0 (D : Dn X B W x false n Fn [] gD) (hdb : (x == ("__debug__" : Str)) = false := by decide) : SE X B W (.Call (.Name x p) [] [] pos) (callF Fn n gD nilF nilF) := by
  obtain ⟨⟨k, f, fd, ps, g, gV, F, hr, hq, hg, hm, hk, hb, gd⟩, tk⟩ := D
  exact PE.imp (pe_callT0 F hr hq hg hm hk hb (passAt tk) hdb) fun σ H Q p => call_read gd (fun Q ⟨M, s, r, p⟩ => p.out r .nil) (fun H Q ⟨M, s, r, p⟩ => p.out r .nil) p
theorem se_callK (D : Dn X B W x false n Fn ks gD) (ha : SA X B W (e :: es) ka) (hkw : SK X B W kws kk) (hall : (backToKw pos (keywordEach kws X.env)).all (·.1.isSome) = true := by rfl) (hks : (backToKw pos (keywordEach kws X.env)).filterMap (·.1) = ks := by rfl)
    (hdb : (x == ("__debug__" : Str)) = false := by decide) (he : starEach (e :: es) X.env = (false, eval e X.env) :: starEach es X.env := by rfl)
    (hpl : ((backTo pos (starEach (e :: es) X.env)).any (·.1) || (backToKw pos (keywordEach kws X.env)).any (·.1.isNone)) = false := by rfl) : SE X B W (.Call (.Name x p) (e :: es) kws pos) (callF Fn n gD ka kk) := by
  obtain ⟨⟨k, f, fd, ps, g, gV, F, hr, hq, hg, hm, hk, hb, gd⟩, tk⟩ := D
  exact PE.imp (pe_callTK F hr hq hg hm hk hb (passAt tk) ha hkw hall hks hdb he hpl) fun σ H Q p => call_read gd (fun _ q => q) (fun _ _ q => q) p
theorem se_callK0 (D : Dn X B W x false n Fn ks gD) (hkw : SK X B W kws kk) (hall : (backToKw pos (keywordEach kws X.env)).all (·.1.isSome) = true := by rfl) (hks : (backToKw pos (keywordEach kws X.env)).filterMap (·.1) = ks := by rfl)
    (hdb : (x == ("__debug__" : Str)) = false := by decide)
    (hpl : ((backTo pos (starEach [] X.env)).any (·.1) || (backToKw pos (keywordEach kws X.env)).any (·.1.isNone)) = false := by rfl) : SE X B W (.Call (.Name x p) [] kws pos) (callF Fn n gD nilF kk) := by
  obtain ⟨⟨k, f, fd, ps, g, gV, F, hr, hq, hg, hm, hk, hb, gd⟩, tk⟩ := D
  exact PE.imp (pe_callTK0 F hr hq hg hm hk hb (passAt tk) hkw hall hks hdb hpl) fun σ H Q p => call_read gd (fun Q ⟨M, s, r, p⟩ => p.out r .nil) (fun _ _ q => q) p
/-- what may be changed stands at slot i -/
def mutAt (s : List Sl) (i : Nat) : Bool := match s[i]? with
  | some (.ow _) => true
  | some (.io _) => true
  | _ => false
theorem mutAt.run {B : Bs} {M : MS} {σ : L2.St} {H : Hp} {s : List Sl} {i : Nat} (r : SR B M σ H s) (h : mutAt s i = true) : ∃ a, σ[i]? = some (some (.ref a)) := by
  unfold mutAt at h
  split at h
  · rename_i m e
    obtain ⟨a, xs, e1, _⟩ := r.ow i _ e
    exact ⟨a, e1⟩
  · rename_i m e
    obtain ⟨z, a, xs, p, e1, _⟩ := r.io i _ e
    exact ⟨a, z ▸ e1⟩
  · cases h
/-- f(own, e, ..): the list, the instance of one's own at slot i may be changed by f -/
def callIoF (Fn : List D → FR) (n : Nat) (i : Nat) (k : F (List D)) : F D := fun s => if mutAt s i = true then (k s).bind fun ds s1 => if ds.length + 1 = n then match s1[i]? with
    | some (.ow as) => ofFR (Fn (as.d :: ds)) fun ios => s1.set i (.ow ios)
    | some (.io as) => ofFR (Fn (as.d :: ds)) fun ios => s1.set i (.io ios)
    | _ => .no
    else .no
  else .no
theorem pick_range {α : Type} {n : Nat} {us : List α} (h : us.length = n) : pickG n 0 [] (List.range n) us [] = us := by
  unfold pickG
  rw [if_pos ⟨h, rfl⟩, List.append_nil, List.append_nil]
  subst h
  have key : ∀ (m : Nat), m ≤ us.length → (List.range m).filterMap (fun i => us[i]?) = us.take m := fun m => by
    induction m with
    | zero => intro _; rfl
    | succ m ih =>
      intro hm
      have hlt : m < us.length := hm
      rw [List.range_succ, List.filterMap_append, ih (by omega), List.filterMap_cons_some (List.getElem?_eq_getElem hlt), List.take_add_one, List.getElem?_eq_getElem hlt]
      rfl
  rw [key us.length (Nat.le_refl _), List.take_length]
structure DnIo (X : Cx) (B : Bs) (W : WX) (x : Str) (n : Nat) (Fn : List D → FR) : Prop where
  ex : ∃ (k : Nat) (f : Addr) (fd : FuncData) (ps : List Str), FnG X.prog X.w X.K X.mg X.base k f fd ps (spF B.K true n Fn) ∧ Room k X.A ∧ X.A.guards = some [] ∧ Gl X x ∧ X.mg x = some (.ref f) ∧ PySem.W.keepIn X.K (.ref f) = true ∧
    KBinds X.K fd ps [] (pickG n 0 [] (List.range n)) (pickG n 0 [] (List.range n))
  tk : Takes X W
theorem Kn.dnIo {X : Cx} {B : Bs} {W : WX} {P : Program} {w : World} {K : PySem.W.Frag} {mg : Str → Option Value} {base : Heap} {x qual : Str} {st : Stmt} {k j : Nat} {ps : List Str} {Fn : List D → FR} (kn : Kn P w K mg base x qual st k true ps Fn)
    (hX : X.prog = P ∧ X.w = w ∧ X.K = K ∧ X.mg = mg ∧ X.base = base) (hK : B.K = K) (hr : Room j X.A) (hk : k ≤ j) (hq : X.A.guards = some []) (hg : Gl X x) (tk : Takes X W) (hp : 0 < ps.length)
    (h : ∀ (kV doc pm : Value) (an : Option Addr) (cdv ct : Value) (us ws : List Value), us.length = ps.length → ws.length = ([] : List Str).length → bindArgs (PySem.W.fnOf x qual (defArgs st) (defBody st) (defScope st) .none kV doc pm an cdv ct) ⟨us, ([] : List Str).zip ws⟩ = pure (ps.zip ((List.range ps.length).filterMap fun i => (us ++ ws ++ [])[i]?))) :
    DnIo X B W x ps.length Fn := by
  obtain ⟨rfl, rfl, rfl, rfl, rfl⟩ := hX
  obtain ⟨f, fd, F, G, hm⟩ := kn.ex
  exact ⟨⟨k, f, fd, ps, hK ▸ G, hr.mono hk, hq, hg, hm, F.kp, Fun.kb (ks := []) F hp h⟩, tk⟩
theorem se_callIo (i : Nat) {y : Str} {py : Pos} (D : DnIo X B W x n Fn) (ha : SA X B W es ka) (hst : starEach (.Name y py :: es) X.env = (false, eval (.Name y py) X.env) :: starEach es X.env := by rfl) (hpl : (backTo pos (starEach es X.env)).any (·.1) = false := by rfl)
    (hN : X.N[i]? = some y := by rfl) (hv : Vis X.env.scope y := by first | exact Or.inl rfl | exact Or.inr (Or.inl rfl) | exact Or.inr (Or.inr rfl))
    (hd : (y == ("__debug__" : Str)) = false := by decide) (hcd : (y == ("__classdict__" : Str)) = false := by decide) (hdb : (x == ("__debug__" : Str)) = false := by decide) :
    SE X B W (.Call (.Name x p) (.Name y py :: es) [] pos) (callIoF Fn n i ka) := by
  obtain ⟨⟨k, f, fd, ps, F, hr, hq, hg, hm, hk, hb⟩, tk⟩ := D
  refine PE.imp (pe_callT F hr hq hg hm hk hb (passAt tk) (pa_cons (pe_var hN hv hd hcd) ha hst) hdb hst hpl) fun σ H Q ⟨M, s, r, p⟩ => ?_
  unfold callIoF at p
  split at p
  case isFalse => exact p.elim
  case isTrue e0 =>
    obtain ⟨a, e1⟩ := mutAt.run r e0
    refine ⟨_, e1, M, s, r, Post.bind p fun ds s1 M1 H1 vs r1 q1 ev1 p1 => ?_⟩
    split at p1
    case isFalse => exact p1.elim
    case isTrue hn =>
    have hvl : (V.ref a :: vs).length = n := by rw [List.length_cons, q1.length]; exact hn
    show spF B.K true n Fn (pickG n 0 [] (List.range n) (V.ref a :: vs) []) H1 Q (WE W σ)
    rw [pick_range hvl]
    refine ⟨hvl, ?_⟩
    -- the slot as it stands now
    have key : ∀ (io : Bool) (as : MO), s1[i]? = some (if io then Sl.io as else Sl.ow as) → Post B W (rhoD B) M1 H1 σ (ofFR (Fn (as.d :: ds)) fun ios => s1.set i (if io then Sl.io ios else Sl.ow ios)) Q →
        ∃ M' ds', MOk M' H1 ∧ ArgR B.K M' H1 true (.ref a :: vs) ds' ∧ PostF B.K M' H1 true (.ref a :: vs) (Fn ds') Q (WE W σ) := fun io as hs p2 => by
      have hx : ∃ xs, H1 a = some xs ∧ M1 a ∧ MR B.K M1 H1 xs as := by
        cases io with
        | true =>
          obtain ⟨z, a', xs, h2, h3, h4, h5, h6⟩ := r1.io i as hs
          rw [← z, e1] at h3
          cases h3
          exact ⟨xs, h4, h5, h6⟩
        | false =>
          obtain ⟨a', xs, h3, h4, h5, h6, h7⟩ := r1.ow i as hs
          rw [e1] at h3
          cases h3
          exact ⟨xs, h4, h5, h7⟩
      obtain ⟨xs, hx1, hx2, hx3⟩ := hx
      refine ⟨M1, as.d :: ds, r1.mo, ⟨a, xs, as, vs, ds, rfl, rfl, hx1, hx2, hx3, q1⟩, ?_⟩
      have stp : ∀ {H' : Hp}, Step (ioM true (.ref a :: vs)) H1 H' → Step (fun b => b = a) H1 H' := fun {H'} st b o e n => st b o e fun ⟨_, r', z⟩ => n (by cases z; rfl)
      revert p2
      cases Fn (as.d :: ds) with
      | ret d ios =>
        intro p2 v H' st ir q
        obtain ⟨a2, r2, ys, h1, h2, h3⟩ := ir rfl
        cases h1
        obtain ⟨rr, ev⟩ := r1.mutated (io := io) hs e1 h2 h3 (stp st)
        exact p2 v H' M1 rr q ev
      | retn es ios =>
        intro p2 b ys H' st hn2 hp ir q
        obtain ⟨a2, r2, zs, h1, h2, h3⟩ := ir rfl
        cases h1
        have rl := r1.laid (xs := ys) hn2
        have ne : a ≠ b := fun z => by rw [z, hn2] at hx1; cases hx1
        have st2 : Step (fun c => c = a) (upd H1 b (.lst ys)) H' := fun c o e n => by
          by_cases hc : c = b
          · subst hc; rw [upd_same] at e; rw [hp]; exact e
          · rw [upd_ne hc] at e; exact stp st c o e n
        obtain ⟨rr, ev⟩ := rl.mutated (io := io) hs e1 h2 h3 st2
        have evL : Ev M1 H1 (With M1 b) (upd H1 b (.lst ys)) := ⟨fun c z => z.elim .inl fun z => .inr (z ▸ hn2), .same (same_upd hn2)⟩
        have nb : ∀ (j : Nat) (fs : MO), (s1.set i (if io = true then Sl.io ios else Sl.ow ios))[j]? = some (.ow fs) → σ[j]? ≠ some (some (.ref b)) := fun j fs h z => by
          rcases nth_set h with ⟨rfl, _⟩ | ⟨_, h⟩
          · rw [e1] at z
            cases z
            exact ne rfl
          · exact r1.noOw hn2 j fs h z
        have h0 : B.H0 b = none := by
          rcases rr.dn b (.inr rfl) with z | z
          · exact absurd (r1.up b z) (r1.mo.there hn2)
          · exact z
        have nL : B.L b = none := by
          cases h : B.L b with
          | none => rfl
          | some o =>
            have := (r1.lk b o h).2.1
            rw [hn2] at this
            cases this
        -- let the new list go
        have fr : SR B M1 σ H' (s1.set i (if io = true then Sl.io ios else Sl.ow ios)) := by
          have sb : Ev (With M1 b) H' M1 H' := .sub fun _ z => .inl z
          exact {
            va := fun j d e => let ⟨v, h1, q⟩ := rr.va j d e; ⟨v, h1, q.move rr.mo sb⟩
            ow := fun j d e => by
              obtain ⟨c, zs, h1, h2, h3, h4, h5⟩ := rr.ow j d e
              refine ⟨c, zs, h1, h2, h3.resolve_right fun z => nb j d e (z ▸ h1), h4, h5.move rr.mo sb⟩
            io := fun j d e => by
              obtain ⟨z, c, zs, h1, h2, h3, h4, h5⟩ := rr.io j d e
              refine ⟨z, c, zs, h1, h2, h3, h4.resolve_right fun z2 => ?_, h5.move rr.mo sb⟩
              rw [z2] at h1
              exact (r1.mo.there hn2) (r1.up b (rr.pa b h1).1)
            pa := rr.pa
            ne := rr.ne
            mo := fun c z => rr.mo c (.inl z)
            up := r1.up
            dn := r1.dn
            st := rr.st
            bm := rr.bm
            lk := fun c o e => by
              obtain ⟨h1, h2, h3⟩ := rr.lk c o e
              exact ⟨(r1.lk c o e).1, h2, h3⟩
            len := rr.len }
        refine p2 (.ref b) H' M1 fr (.lst hp (r1.mo.there hn2) (q.move rr.mo (.sub fun _ z => .inl z))) ⟨fun _ z => .inl z, fun c o e n => st c o e fun ⟨_, r', z⟩ => n (by cases z; exact hx2)⟩
      | er x ios =>
        intro p2 cls od H' st ir q
        obtain ⟨a2, r2, ys, h1, h2, h3⟩ := ir rfl
        cases h1
        obtain ⟨rr, ev⟩ := r1.mutated (io := io) hs e1 h2 h3 (stp st)
        exact p2 cls od H' M1 rr q
      | no => exact fun p2 => p2
    split at p1
    · rename_i as hs
      exact key false as hs p1
    · rename_i as hs
      exact key true as hs p1
    · exact p1.elim
end
end Fx

set_option Elab.async false
set_option linter.all false
set_option maxRecDepth 100000
namespace Fx
open PySem L2 PyProof.Rows
/-! ### data as the library has it -/
mutual
def toPy : D → Option PyData
  | .non => some .none
  | .bl b => some (.bool b)
  | .int i => some (.int i)
  | .str x => some (.str x)
  | .tup xs => (toPyL xs).map .tuple
  | .lst xs => (toPyL xs).map .list
  | _ => none
def toPyL : List D → Option (List PyData)
  | [] => some []
  | x :: xs => match toPy x, toPyL xs with
    | some d, some ds => some (d :: ds)
    | _, _ => none
end
mutual
theorem Rp.dp {K : PySem.W.Frag} {M : MS} {H : Hp} : ∀ {v : V} {d : D} {p : PyData}, Rp K M H v d → toPy d = some p → Dp K H v p
  | _, _, _, .non, e => by unfold toPy at e; cases e; exact .non
  | _, _, _, .bl b, e => by unfold toPy at e; cases e; exact .bl b
  | _, _, _, .int i, e => by unfold toPy at e; cases e; exact .int i
  | _, _, _, .str x, e => by unfold toPy at e; cases e; exact .str x
  | _, _, _, .ty n, e => by unfold toPy at e; cases e
  | _, _, _, .ref a, e => by unfold toPy at e; cases e
  | _, .lst xs, _, .lst h n l, e => by
    unfold toPy at e
    cases h2 : toPyL xs with
    | none => rw [h2] at e; cases e
    | some ps => rw [h2] at e; cases e; exact .lst (.of h) (RpL.dp l h2)
  | _, _, _, .fz h n l, e => by unfold toPy at e; cases e
  | _, _, _, .fzK h l, e => by unfold toPy at e; cases e
  | _, .tup xs, _, .tup h l, e => by
    unfold toPy at e
    cases h2 : toPyL xs with
    | none => rw [h2] at e; cases e
    | some ps => rw [h2] at e; cases e; exact .tup (.of h) (RpL.dp l h2)
  | _, .tup xs, _, .tupK h l, e => by
    unfold toPy at e
    cases h2 : toPyL xs with
    | none => rw [h2] at e; cases e
    | some ps => rw [h2] at e; cases e; exact .tup (h.sq H) (RpL.dp l h2)
  | _, _, _, .ins h n c q l, e => by unfold toPy at e; cases e
theorem RpL.dp {K : PySem.W.Frag} {M : MS} {H : Hp} : ∀ {vs : List V} {ds : List D} {ps : List PyData}, RpL K M H vs ds → toPyL ds = some ps → DpAll K H vs ps
  | _, _, _, .nil, e => by unfold toPyL at e; cases e; exact .nil
  | _, d :: ds, _, .cons h t, e => by
    unfold toPyL at e
    split at e
    · rename_i h1 h2
      cases e
      exact .cons (Rp.dp h h1) (RpL.dp t h2)
    · cases e
end

/-! ### arithmetic -/
theorem OpR.or {X : Cx} {f : Value → Value → Sem Value} {r r' : R2} (h : OpR X f r) (h' : OpR X f r') : OpR X f (fun x y H Q => r x y H Q ∨ r' x y H Q) := fun pins s σ H x y v u Q I rx ry q => q.elim (h pins s σ H x y v u Q I rx ry) (h' pins s σ H x y v u Q I rx ry)
theorem CallR.or {X : Cx} {f : Value} {r r' : List V → Hp → VK → Prop} (h : CallR X f r) (h' : CallR X f r') : CallR X f (fun xs H Q => r xs H Q ∨ r' xs H Q) := fun pins s σ H xs us Q I rs q => q.elim (h pins s σ H xs us Q I rs) (h' pins s σ H xs us Q I rs)
theorem Op2.or {K : PySem.W.Frag} {r r' : R2} {o : D → D → Option D} (h : ∀ (x y d : D), o x y = some d → ∀ (M : MS) (H : Hp) (v u : V) (Q : VK), MOk M H → Rp K M H v x → Rp K M H u y → (∀ w H', Same H H' → Rp K M H' w d → Q w H') → r v u H Q ∨ r' v u H Q) : Op2 K (fun x y H Q => r x y H Q ∨ r' x y H Q) o := h
theorem same_rfl {H : Hp} : Same H H := fun _ _ h => h
section
variable {X : Cx} {K : PySem.W.Frag}
def addD : D → D → Option D
  | .int i, .int j => some (.int (i + j))
  | .str a, .str b => if a.length + b.length ≤ sizeLine then some (.str (a ++ b)) else none
  | .lst xs, .lst ys => if xs.length + ys.length ≤ sizeLine then some (.lst (xs ++ ys)) else none
  | .tup xs, .tup ys => if xs.length + ys.length ≤ sizeLine then some (.tup (xs ++ ys)) else none
  | _, _ => none
theorem op_addD : ∃ r, OpR X (binaryOp .Add) r ∧ Op2 X.K r addD := by
  refine ⟨_, OpR.or op_add (OpR.or op_add_str (OpR.or op_cat op_catA)), fun x y d e M H v u Q m qx qy k => ?_⟩
  unfold addD at e
  split at e
  · cases e
    cases qx
    cases qy
    exact .inl ⟨_, _, rfl, rfl, k _ H same_rfl (.int _)⟩
  · split at e
    · rename_i hz
      cases e
      cases qx
      cases qy
      exact .inr (.inl ⟨_, _, rfl, rfl, hz, k _ H same_rfl (.str _)⟩)
    · cases e
  · split at e
    · rename_i hz
      cases e
      cases qx with
      | lst h1 n1 l1 =>
        cases qy with
        | lst h2 n2 l2 => exact .inr (.inr (.inl ⟨_, _, _, _, rfl, rfl, h1, h2, by rw [l1.length, l2.length]; exact hz, fun p hp => k _ _ (same_upd hp) (new_lst m hp (l1.append l2))⟩))
    · cases e
  · split at e
    · rename_i xs ys hz
      cases e
      obtain ⟨a, vs, rfl, hq1, l1⟩ := qx.seqT
      obtain ⟨b, ws, rfl, hq2, l2⟩ := qy.seqT
      refine .inr (.inr (.inr ⟨a, b, vs, ws, rfl, rfl, hq1, hq2, by rw [l1.length, l2.length]; exact hz, fun z => ?_, fun _ z => ?_, fun _ _ p hp => k _ _ (same_upd hp) (new_tup m hp (l1.append l2))⟩))
      · have : xs = [] := by
          have := l1.length
          rw [z] at this
          cases xs with
          | nil => rfl
          | cons _ _ => simp at this
        subst this
        exact k _ H same_rfl qy
      · have : ys = [] := by
          have := l2.length
          rw [z] at this
          cases ys with
          | nil => rfl
          | cons _ _ => simp at this
        subst this
        exact k _ H same_rfl (by rw [List.append_nil]; exact qx)
    · cases e
  · cases e
def subD : D → D → Option D
  | .int i, .int j => some (.int (i - j))
  | _, _ => none
theorem op_subD : ∃ r, OpR X (binaryOp .Sub) r ∧ Op2 X.K r subD := by
  refine ⟨_, op_sub, fun x y d e M H v u Q m qx qy k => ?_⟩
  unfold subD at e
  split at e
  · cases e
    cases qx
    cases qy
    exact ⟨_, _, rfl, rfl, k _ H same_rfl (.int _)⟩
  · cases e
instance {i j : Int} : Decidable (CMul i j) := by unfold CMul; exact inferInstance
instance {i j : Int} : Decidable (CMulW i j) := by unfold CMulW; exact inferInstance
def mulD : D → D → Option D
  | .int i, .int j => if CMul i j ∨ CMulW i j then some (.int (i * j)) else none
  | .lst xs, .int k => if -(2 ^ 63) ≤ k ∧ k < 2 ^ 63 ∧ xs.length * k.toNat ≤ sizeLine then some (.lst (List.replicate k.toNat xs).flatten) else none
  | _, _ => none
theorem RpL.rep {M : MS} {H : Hp} {vs : List V} {ds : List D} (l : RpL K M H vs ds) : ∀ n, RpL K M H (List.replicate n vs).flatten (List.replicate n ds).flatten
  | 0 => .nil
  | n + 1 => by
    rw [List.replicate_succ, List.replicate_succ, List.flatten_cons, List.flatten_cons]
    exact l.append (RpL.rep l n)
theorem op_mulD : ∃ r, OpR X (binaryOp .Mult) r ∧ Op2 X.K r mulD := by
  refine ⟨_, OpR.or op_mul (OpR.or op_mulW op_rep), fun x y d e M H v u Q m qx qy k => ?_⟩
  unfold mulD at e
  split at e
  · split at e
    · rename_i hc
      cases e
      cases qx
      cases qy
      rcases hc with hc | hc
      · exact .inl ⟨_, _, rfl, rfl, hc, k _ H same_rfl (.int _)⟩
      · exact .inr (.inl ⟨_, _, rfl, rfl, hc, k _ H same_rfl (.int _)⟩)
    · cases e
  · split at e
    · rename_i hc
      cases e
      cases qy
      cases qx with
      | lst h1 n1 l1 => exact .inr (.inr ⟨_, _, _, rfl, rfl, h1, hc.1, hc.2.1, by rw [l1.length]; exact hc.2.2, fun p hp => k _ _ (same_upd hp) (new_lst m hp (RpL.rep l1 _))⟩)
    · cases e
  · cases e
def fdivD : D → D → Option D
  | .int i, .int j => if 0 < j ∧ j.natAbs.log2 < 9000 then some (.int (i / j)) else none
  | _, _ => none
theorem op_fdivD : ∃ r, OpR X (binaryOp .FloorDiv) r ∧ Op2 X.K r fdivD := by
  refine ⟨_, op_fdivW, fun x y d e M H v u Q m qx qy k => ?_⟩
  unfold fdivD at e
  split at e
  · split at e
    · rename_i hc
      cases e
      cases qx
      cases qy
      exact ⟨_, _, rfl, rfl, hc, k _ H same_rfl (.int _)⟩
    · cases e
  · cases e
def modD : D → D → Option D
  | .int i, .int j => if 0 < j then some (.int (i % j)) else none
  | _, _ => none
theorem op_modD : ∃ r, OpR X (binaryOp .Mod) r ∧ Op2 X.K r modD := by
  refine ⟨_, op_mod, fun x y d e M H v u Q m qx qy k => ?_⟩
  unfold modD at e
  split at e
  · split at e
    · rename_i hc
      cases e
      cases qx
      cases qy
      exact ⟨_, _, rfl, rfl, hc, k _ H same_rfl (.int _)⟩
    · cases e
  · cases e
def powD : D → D → Option D
  | .int i, .int j => if 0 ≤ j ∧ j ≤ 1000000 ∧ i.natAbs < 2 ^ 64 then some (.int (i ^ j.toNat)) else none
  | _, _ => none
theorem op_powD : ∃ r, OpR X (binaryOp .Pow) r ∧ Op2 X.K r powD := by
  refine ⟨_, op_pow, fun x y d e M H v u Q m qx qy k => ?_⟩
  unfold powD at e
  split at e
  · split at e
    · rename_i hc
      cases e
      cases qx
      cases qy
      exact ⟨_, _, rfl, rfl, hc, k _ H same_rfl (.int _)⟩
    · cases e
  · cases e
def negD : D → Option D
  | .int i => some (.int (-i))
  | _ => none
theorem op_negD : ∃ r, UnR X (unaryOp .USub) r ∧ Op1 X.K r negD := by
  refine ⟨_, un_neg, fun x d e M H v Q m qx k => ?_⟩
  unfold negD at e
  split at e
  · cases e
    cases qx
    exact ⟨_, rfl, k _ H same_rfl (.int _)⟩
  · cases e

/-! ### comparisons -/
def cmpD (p : Int → Int → Bool) : D → D → Option D
  | .int i, .int j => some (.bl (p i j))
  | _, _ => none
theorem cmp_op {p : Int → Int → Bool} : Op2 K (rI0 fun i j => .bl (p i j)) (cmpD p) := fun x y d e M H v u Q m qx qy k => by
  unfold cmpD at e
  split at e
  · cases e
    cases qx
    cases qy
    exact ⟨_, _, rfl, rfl, k _ H same_rfl (.bl _)⟩
  · cases e
abbrev ltD := cmpD fun i j => decide (i < j)
abbrev leD := cmpD fun i j => decide (i ≤ j)
abbrev gtD := cmpD fun i j => decide (j < i)
abbrev geD := cmpD fun i j => decide (j ≤ i)
theorem op_ltD : ∃ r, OpR X (compareOp .Lt) r ∧ Op2 X.K r ltD := ⟨_, op_lt, cmp_op⟩
theorem op_leD : ∃ r, OpR X (compareOp .LtE) r ∧ Op2 X.K r leD := ⟨_, op_le, cmp_op⟩
theorem op_gtD : ∃ r, OpR X (compareOp .Gt) r ∧ Op2 X.K r gtD := ⟨_, op_gt, cmp_op⟩
theorem op_geD : ∃ r, OpR X (compareOp .GtE) r ∧ Op2 X.K r geD := ⟨_, op_ge, cmp_op⟩
def eqG (x y : D) : Option D := match toPy x, toPy y with
  | some a, some b => if SeqAt.shaped a = true ∧ SeqAt.shaped b = true then some (.bl (PyData.eqv a b)) else none
  | _, _ => none
def neG (x y : D) : Option D := match toPy x, toPy y with
  | some a, some b => if SeqAt.shaped a = true ∧ SeqAt.shaped b = true then some (.bl (!PyData.eqv a b)) else none
  | _, _ => none
def eqD : D → D → Option D
  | .int i, .int j => some (.bl (decide (i = j)))
  | .str x, .str y => some (.bl (decide (x = y)))
  | x, y => eqG x y
def neD : D → D → Option D
  | .int i, .int j => some (.bl (!decide (i = j)))
  | .str x, .str y => some (.bl (!decide (x = y)))
  | x, y => neG x y
theorem decInt {i j : Int} : decide (V.int i = V.int j) = decide (i = j) := decide_eq_decide.mpr ⟨V.int.inj, fun h => h ▸ rfl⟩
theorem decStr {i j : Str} : decide (V.str i = V.str j) = decide (i = j) := decide_eq_decide.mpr ⟨V.str.inj, fun h => h ▸ rfl⟩
theorem op_eqDD (hu : X.A.units + 64 < cLine) : ∃ r, OpR X (compareOp .Eq) r ∧ Op2 X.K r eqD := by
  refine ⟨_, OpR.or op_eq (op_eqD hu), fun x y d e M H v u Q m qx qy k => ?_⟩
  unfold eqD at e
  split at e
  · cases e
    cases qx
    cases qy
    exact .inl ⟨rfl, by rw [decInt]; exact k _ H same_rfl (.bl _)⟩
  · cases e
    cases qx
    cases qy
    exact .inl ⟨rfl, by rw [decStr]; exact k _ H same_rfl (.bl _)⟩
  · unfold eqG at e
    split at e
    · split at e
      · rename_i a b ha hb hc
        cases e
        exact .inr ⟨a, b, qx.dp ha, qy.dp hb, hc.1, hc.2, k _ H same_rfl (.bl _)⟩
      · cases e
    · cases e
theorem op_neDD (hu : X.A.units + 64 < cLine) : ∃ r, OpR X (compareOp .NotEq) r ∧ Op2 X.K r neD := by
  refine ⟨_, OpR.or op_ne (op_neD hu), fun x y d e M H v u Q m qx qy k => ?_⟩
  unfold neD at e
  split at e
  · cases e
    cases qx
    cases qy
    exact .inl ⟨rfl, by rw [decInt]; exact k _ H same_rfl (.bl _)⟩
  · cases e
    cases qx
    cases qy
    exact .inl ⟨rfl, by rw [decStr]; exact k _ H same_rfl (.bl _)⟩
  · unfold neG at e
    split at e
    · split at e
      · rename_i a b ha hb hc
        cases e
        exact .inr ⟨a, b, qx.dp ha, qy.dp hb, hc.1, hc.2, k _ H same_rfl (.bl _)⟩
      · cases e
    · cases e
/-- is None; is True -/
def isNonD : D → Bool
  | .non => true
  | _ => false
theorem Rp.non_iff {M : MS} {H : Hp} {v : V} {d : D} (q : Rp K M H v d) : decide (v = .non) = isNonD d := by cases q <;> rfl
def isD : D → D → Option D
  | x, .non => some (.bl (isNonD x))
  | .bl a, .bl b => some (.bl (decide (a = b)))
  | _, _ => none
def isNotD : D → D → Option D
  | x, .non => some (.bl (!isNonD x))
  | .bl a, .bl b => some (.bl (!decide (a = b)))
  | _, _ => none
theorem op_isD : ∃ r, OpR X (compareOp .Is) r ∧ Op2 X.K r isD := by
  refine ⟨_, OpR.or op_isN op_is_bl, fun x y d e M H v u Q m qx qy k => ?_⟩
  unfold isD at e
  split at e
  · cases e
    cases qy
    exact .inl ⟨rfl, by rw [qx.non_iff]; exact k _ H same_rfl (.bl _)⟩
  · cases e
    cases qx
    cases qy
    exact .inr ⟨_, _, rfl, rfl, k _ H same_rfl (.bl _)⟩
  · cases e
theorem op_isNotD : ∃ r, OpR X (compareOp .IsNot) r ∧ Op2 X.K r isNotD := by
  refine ⟨_, OpR.or op_notN op_isnot_bl, fun x y d e M H v u Q m qx qy k => ?_⟩
  unfold isNotD at e
  split at e
  · cases e
    cases qy
    exact .inl ⟨rfl, by rw [qx.non_iff]; exact k _ H same_rfl (.bl _)⟩
  · cases e
    cases qx
    cases qy
    exact .inr ⟨_, _, rfl, rfl, k _ H same_rfl (.bl _)⟩
  · cases e
/-- in -/
def flatD : D → Bool
  | .non => true
  | .bl _ => true
  | .int _ => true
  | .str _ => true
  | _ => false
def eqFD : D → D → Bool
  | .non, .non => true
  | .bl a, .bl b => a == b
  | .bl a, .int b => (if a then 1 else 0) == b
  | .int a, .bl b => a == (if b then 1 else 0)
  | .int a, .int b => a == b
  | .str a, .str b => a == b
  | _, _ => false
theorem Rp.flat {M : MS} {H : Hp} {v : V} {d : D} (q : Rp K M H v d) (h : flatD d = true) : flatV v = true := by cases q <;> first | rfl | exact h
theorem RpL.flat {M : MS} {H : Hp} : ∀ {vs : List V} {ds : List D}, RpL K M H vs ds → ds.all flatD = true → vs.all flatV = true
  | _, _, .nil, _ => rfl
  | _, _, .cons q t, h => by
    rw [List.all_cons, Bool.and_eq_true] at h
    rw [List.all_cons, q.flat h.1, t.flat h.2]
    rfl
theorem Rp.eqF {M : MS} {H : Hp} {v u : V} {d e : D} (q : Rp K M H v d) (p : Rp K M H u e) (h1 : flatD d = true) (h2 : flatD e = true) : eqV v u = eqFD d e := by
  cases q <;> first | (cases p <;> first | rfl | exact absurd h2 Bool.false_ne_true) | exact absurd h1 Bool.false_ne_true
theorem RpL.inF {M : MS} {H : Hp} {x : V} {d : D} (q : Rp K M H x d) (hd : flatD d = true) : ∀ {vs : List V} {ds : List D}, RpL K M H vs ds → ds.all flatD = true → inV x vs = ds.any (fun y => eqFD y d)
  | _, _, .nil, _ => rfl
  | v :: vs, e :: ds, .cons p t, h => by
    rw [List.all_cons, Bool.and_eq_true] at h
    have ih := RpL.inF q hd t h.2
    unfold inV at ih ⊢
    rw [List.any_cons, List.any_cons, ih, p.eqF q h.1 hd]
def inD (neg : Bool) : D → D → Option D
  | x, .tup ds => if flatD x = true ∧ ds.all flatD = true then some (.bl (if neg then !(ds.any fun y => eqFD y x) else ds.any fun y => eqFD y x)) else none
  | x, .lst ds => if flatD x = true ∧ ds.all flatD = true then some (.bl (if neg then !(ds.any fun y => eqFD y x) else ds.any fun y => eqFD y x)) else none
  | .str ⟨c⟩, .str z => match c.toList with
    | [c] => some (.bl (if neg then !decide (c ∈ z.cps.toList) else decide (c ∈ z.cps.toList)))
    | _ => none
  | _, _ => none
theorem inD_op {neg : Bool} {r : R2} (hr : ∀ (c : Nat) (z : Str) (H : Hp) (Q : VK), Q (.bl (if neg then !decide (c ∈ z.cps.toList) else decide (c ∈ z.cps.toList))) H → r (.str ⟨#[c]⟩) (.str z) H Q) : Op2 K (fun x y H Q => rIn K neg x y H Q ∨ r x y H Q) (inD neg) := fun x y d e M H v u Q m qx qy k => by
  unfold inD at e
  split at e
  · split at e
    · rename_i ds hc
      cases e
      obtain ⟨a, vs, rfl, hq, l⟩ := qy.seqT
      exact .inl ⟨a, vs, rfl, .inr hq, qx.flat hc.1, l.flat hc.2, by rw [RpL.inF qx hc.1 l hc.2]; exact k _ H same_rfl (.bl _)⟩
    · cases e
  · split at e
    · rename_i ds hc
      cases e
      obtain ⟨a, vs, rfl, hq, l⟩ := qy.seq
      exact .inl ⟨a, vs, rfl, .inl hq, qx.flat hc.1, l.flat hc.2, by rw [RpL.inF qx hc.1 l hc.2]; exact k _ H same_rfl (.bl _)⟩
    · cases e
  · split at e
    · rename_i c0 z l c hc
      cases e
      cases qx
      cases qy
      have : c0 = #[c] := by rw [← hc]
      subst this
      exact .inr (hr c z H Q (k _ H same_rfl (.bl _)))
    · cases e
  · cases e
theorem op_inD : ∃ r, OpR X (compareOp .In) r ∧ Op2 X.K r (inD false) := ⟨_, OpR.or op_in_seq op_in_sign, inD_op fun c z H Q q => ⟨c, z, rfl, rfl, q⟩⟩
theorem op_notInD : ∃ r, OpR X (compareOp .NotIn) r ∧ Op2 X.K r (inD true) := ⟨_, OpR.or op_notIn_seq op_notIn_sign, inD_op fun c z H Q q => ⟨c, z, rfl, rfl, q⟩⟩

/-! ### places, slices -/
def ixD : D → D → Option D
  | .lst ds, .int i => atD ds i
  | .fz ds, .int i => atD ds i
  | .tup ds, .int i => atD ds i
  | .str z, .int i => if z.length ≤ sizeLine then (atI z.cps.toList i).map fun c => .str ⟨#[c]⟩ else none
  | _, _ => none
theorem ix_op : Op2 X.K (rIx X.K) ixD := fun x y d e M H v u Q m qx qy k => by
  unfold ixD at e
  split at e
  · cases qy
    obtain ⟨a, vs, rfl, hq, l⟩ := qx.seq
    obtain ⟨w, hw, q⟩ := atD.run l e
    exact .inl ⟨a, vs, _, w, rfl, rfl, hq, hw, k _ H same_rfl q⟩
  · cases qy
    cases qx with
    | fz h n l =>
      obtain ⟨w, hw, q⟩ := atD.run l e
      exact .inl ⟨_, _, _, w, rfl, rfl, .inl h, hw, k _ H same_rfl q⟩
    | fzK h l =>
      obtain ⟨w, hw, q⟩ := atD.run l e
      exact .inl ⟨_, _, _, w, rfl, rfl, h H, hw, k _ H same_rfl q⟩
  · cases qy
    obtain ⟨a, vs, rfl, hq, l⟩ := qx.seqT
    obtain ⟨w, hw, q⟩ := atD.run l e
    exact .inr (.inl ⟨a, vs, _, w, rfl, rfl, hq, hw, k _ H same_rfl q⟩)
  · split at e
    · rename_i z i hz
      cases qx
      cases qy
      cases hc : atI z.cps.toList i with
      | none => rw [hc] at e; cases e
      | some c =>
        rw [hc] at e
        cases e
        exact .inr (.inr ⟨z, i, c, rfl, rfl, hz, hc, k _ H same_rfl (.str _)⟩)
    · cases e
  · cases e
theorem se_ix {B : Bs} {W : WX} {a b : Expr} {f g : F D} {pos : Pos} (hK : X.K = B.K) (ha : SE X B W a f) (hb : SE X B W b g) (hs : PlainIx b := by exact fun _ _ => rfl) : SE X B W (.Subscript a b pos) (op2F ixD f g) :=
  PE.imp (pe_ix ix_seq ha hb hs) fun σ H Q p => two_run (hK ▸ ix_op) p
def cutD (ds : List D) (lo hi : Option Int) : List D := (ds.drop (HT.sIx ds.length 0 lo)).take (HT.sIx ds.length ds.length hi - HT.sIx ds.length 0 lo)
theorem RpL.cut {M : MS} {H : Hp} {vs : List V} {ds : List D} (l : RpL K M H vs ds) (lo hi : Option Int) : RpL K M H (cutV vs lo hi) (cutD ds lo hi) := by
  unfold cutV cutD
  rw [l.length]
  exact (l.drop _).take _
def slD : D → Option Int → Option Int → Option D
  | .lst ds, lo, hi => some (.lst (cutD ds lo hi))
  | .fz ds, lo, hi => some (.lst (cutD ds lo hi))
  | .tup ds, lo, hi => if HT.sIx ds.length 0 lo = 0 ∧ HT.sIx ds.length ds.length hi = ds.length then some (.tup ds) else some (.tup (cutD ds lo hi))
  | .str z, lo, hi => if z.length ≤ sizeLine then some (.str (cutS z lo hi)) else none
  | _, _, _ => none
def noPartF : F (Option Int) := fun s => .ok none s
def partF (f : F D) : F (Option Int) := fun s => (f s).bind fun d s1 => match d with
  | .int i => .ok (some i) s1
  | _ => .no
def slF (f : F D) (lo hi : F (Option Int)) : F D := fun s => (f s).bind fun d s1 => (lo s1).bind fun l s2 => (hi s2).bind fun h s3 => toR (slD d l h) s3
theorem PO.imp {e : Option Expr} {t u : TO} (h : PO X e t) (k : ∀ σ H Q, u σ H Q → t σ H Q) : PO X e u := ⟨fun pins s σ H Q I q => h.run pins s σ H Q I (k σ H Q q)⟩
theorem so_none {B : Bs} {W : WX} : SO X B W none noPartF := PO.imp po_none fun σ H Q ⟨M, s, r, p⟩ => p.out r rfl
theorem so_some {B : Bs} {W : WX} {e : Expr} {f : F D} (h : SE X B W e f) : SO X B W (some e) (partF f) := PO.imp (po_some h) fun σ H Q ⟨M, s, r, p⟩ => ⟨M, s, r, Post.bind p fun d s1 M1 H1 v r1 q1 ev1 p1 => by
  split at p1
  · cases q1
    exact ⟨_, rfl, p1.out r1 rfl⟩
  · exact p1.elim⟩
theorem se_sl {B : Bs} {W : WX} {e : Expr} {lo hi : Option Expr} {f : F D} {fl fh : F (Option Int)} {p2 pos : Pos} (hK : X.K = B.K) (h : SE X B W e f) (hl : SO X B W lo fl) (hh : SO X B W hi fh) : SE X B W (.Subscript e (.Slice lo hi none p2) pos) (slF f fl fh) := by
  refine PE.imp (pe_slice (SlR.or sl_list (SlR.or sl_tupA sl_str)) h hl hh) fun σ H Q ⟨M, s, r, p⟩ => ⟨M, s, r, Post.bind p fun d s1 M1 H1 v r1 q1 ev1 p1 => ⟨M1, s1, r1, Post.bind p1 fun l s2 M2 H2 l' r2 q2 ev2 p2 => ⟨M2, s2, r2, Post.bind p2 fun u s3 M3 H3 u' r3 q3 ev3 p3 => ?_⟩⟩⟩
  have q2 : l' = l := q2
  have q3 : u' = u := q3
  subst q2 q3
  have q1 : Rp B.K M3 H3 v d := (Rp.move r1.mo ev2 q1).move r2.mo ev3
  unfold toR at p3
  split at p3
  · rename_i d' e
    unfold slD at e
    split at e
    · cases e
      obtain ⟨a, vs, rfl, hq, ll⟩ := q1.seq
      exact .inl ⟨a, vs, rfl, hK ▸ hq, fun p hp => p3.grow r3 (same_upd hp) (new_lst r3.mo hp (ll.cut _ _))⟩
    · cases e
      cases q1 with
      | fz h n ll => exact .inl ⟨_, _, rfl, .inl h, fun p hp => p3.grow r3 (same_upd hp) (new_lst r3.mo hp (ll.cut _ _))⟩
      | fzK h ll => exact .inl ⟨_, _, rfl, hK ▸ h H3, fun p hp => p3.grow r3 (same_upd hp) (new_lst r3.mo hp (ll.cut _ _))⟩
    · obtain ⟨a, vs, rfl, hq, ll⟩ := q1.seqT
      refine .inr (.inl ⟨a, vs, rfl, hK ▸ hq, fun z => ?_, fun z p hp => ?_⟩)
      · rw [ll.length] at z
        rw [if_pos z] at e
        cases e
        exact p3.out r3 q1
      · rw [ll.length] at z
        rw [if_neg z] at e
        cases e
        exact p3.grow r3 (same_upd hp) (new_tup r3.mo hp (ll.cut _ _))
    · split at e
      · rename_i hz
        cases e
        cases q1
        exact .inr (.inr ⟨_, rfl, hz, p3.out r3 (.str _)⟩)
      · cases e
    · cases e
  · exact p3.elim
end
end Fx

set_option Elab.async false
set_option linter.all false
set_option maxRecDepth 100000
namespace Fx
open PySem L2 PyProof.Rows
section
variable {X : Cx}
/-! ### built-ins -/
def lenD : List D → Option D
  | [.lst ds] => some (.int ds.length)
  | [.fz ds] => some (.int ds.length)
  | [.tup ds] => some (.int ds.length)
  | [.str z] => if z.length ≤ sizeLine then some (.int z.length) else none
  | _ => none
theorem RpL.one {K : PySem.W.Frag} {M : MS} {H : Hp} {vs : List V} {d : D} (h : RpL K M H vs [d]) : ∃ v, vs = [v] ∧ Rp K M H v d := by
  cases h with
  | cons q t => cases t; exact ⟨_, rfl, q⟩
theorem RpL.two {K : PySem.W.Frag} {M : MS} {H : Hp} {vs : List V} {d e : D} (h : RpL K M H vs [d, e]) : ∃ v u, vs = [v, u] ∧ Rp K M H v d ∧ Rp K M H u e := by
  cases h with
  | cons q t =>
    obtain ⟨u, e, p⟩ := t.one
    subst e
    exact ⟨_, _, rfl, q, p⟩
theorem c_len : ∃ r, CallR X (.builtin "len") r ∧ OpN X.K r lenD := by
  refine ⟨_, call_len, fun xs d e M H vs Q m qs k => ?_⟩
  unfold lenD at e
  split at e
  · cases e
    obtain ⟨v, rfl, q⟩ := qs.one
    obtain ⟨a, ws, rfl, hq, l⟩ := q.seq
    exact ⟨_, _, rfl, .inl ⟨ws, hq, l.length.symm⟩, k _ H same_rfl (.int _)⟩
  · cases e
    obtain ⟨v, rfl, q⟩ := qs.one
    cases q with
    | fz h n l => exact ⟨_, _, rfl, .inl ⟨_, .inl h, l.length.symm⟩, k _ H same_rfl (.int _)⟩
    | fzK h l => exact ⟨_, _, rfl, .inl ⟨_, h H, l.length.symm⟩, k _ H same_rfl (.int _)⟩
  · cases e
    obtain ⟨v, rfl, q⟩ := qs.one
    obtain ⟨a, ws, rfl, hq, l⟩ := q.seqT
    exact ⟨_, _, rfl, .inr ⟨ws, hq, l.length.symm⟩, k _ H same_rfl (.int _)⟩
  · split at e
    · rename_i z hz
      cases e
      obtain ⟨v, rfl, q⟩ := qs.one
      cases q
      exact ⟨_, _, rfl, ⟨hz, rfl⟩, k _ H same_rfl (.int _)⟩
    · cases e
  · cases e
def intD : List D → Option D
  | [.int i] => some (.int i)
  | [.bl b] => some (.int (if b then 1 else 0))
  | _ => none
theorem c_int : ∃ r, CallR X (.type "int") r ∧ OpN X.K r intD := by
  refine ⟨_, call_int1, fun xs d e M H vs Q m qs k => ?_⟩
  unfold intD at e
  split at e
  · cases e
    obtain ⟨v, rfl, q⟩ := qs.one
    cases q
    exact .inl ⟨_, rfl, k _ H same_rfl (.int _)⟩
  · cases e
    obtain ⟨v, rfl, q⟩ := qs.one
    cases q
    exact .inr ⟨_, rfl, k _ H same_rfl (.int _)⟩
  · cases e
def boolD : List D → Option D
  | [.int i] => some (.bl (i != 0))
  | [.bl b] => some (.bl b)
  | _ => none
theorem c_bool : ∃ r, CallR X (.type "bool") r ∧ OpN X.K r boolD := by
  refine ⟨_, call_bool1, fun xs d e M H vs Q m qs k => ?_⟩
  unfold boolD at e
  split at e
  · cases e
    obtain ⟨v, rfl, q⟩ := qs.one
    cases q
    exact .inl ⟨_, rfl, k _ H same_rfl (.bl _)⟩
  · cases e
    obtain ⟨v, rfl, q⟩ := qs.one
    cases q
    exact .inr ⟨_, rfl, k _ H same_rfl (.bl _)⟩
  · cases e
def absD : List D → Option D
  | [.int i] => some (.int (if i < 0 then -i else i))
  | _ => none
theorem c_abs : ∃ r, CallR X (.builtin "abs") r ∧ OpN X.K r absD := by
  refine ⟨_, call_abs, fun xs d e M H vs Q m qs k => ?_⟩
  unfold absD at e
  split at e
  · cases e
    obtain ⟨v, rfl, q⟩ := qs.one
    cases q
    exact ⟨_, rfl, k _ H same_rfl (.int _)⟩
  · cases e
def divmodD : List D → Option D
  | [.int i, .int j] => if 0 < j ∧ j < 1073741824 then some (.tup [.int (i / j), .int (i % j)]) else none
  | _ => none
theorem c_divmod : ∃ r, CallR X (.builtin "divmod") r ∧ OpN X.K r divmodD := by
  refine ⟨_, call_divmod, fun xs d e M H vs Q m qs k => ?_⟩
  unfold divmodD at e
  split at e
  · split at e
    · rename_i hc
      cases e
      obtain ⟨v, u, rfl, q1, q2⟩ := qs.two
      cases q1
      cases q2
      exact ⟨_, _, rfl, hc, fun p hp => k _ _ (same_upd hp) (new_tup m hp (.cons (.int _) (.cons (.int _) .nil)))⟩
    · cases e
  · cases e
/-- list(x), tuple(x) -/
def listN : List D → Option (List D)
  | [.lst ds] => some ds
  | [.fz ds] => some ds
  | [.tup ds] => some ds
  | _ => none
theorem c_list : ∃ r, CallR X (.type "list") r ∧ OpW X.K r listN := by
  refine ⟨_, call_list_of, fun xs ds e M H vs Q m qs k => ?_⟩
  unfold listN at e
  split at e
  · cases e
    obtain ⟨v, rfl, q⟩ := qs.one
    obtain ⟨a, ws, rfl, hq, l⟩ := q.seq
    exact ⟨a, ws, rfl, .inl hq, fun p hp => k p ws H same_rfl hp l⟩
  · cases e
    obtain ⟨v, rfl, q⟩ := qs.one
    cases q with
    | fz h n l => exact ⟨_, _, rfl, .inl (.inl h), fun p hp => k p _ H same_rfl hp l⟩
    | fzK h l => exact ⟨_, _, rfl, .inl (h H), fun p hp => k p _ H same_rfl hp l⟩
  · cases e
    obtain ⟨v, rfl, q⟩ := qs.one
    obtain ⟨a, ws, rfl, hq, l⟩ := q.seqT
    exact ⟨a, ws, rfl, .inr hq, fun p hp => k p ws H same_rfl hp l⟩
  · cases e
def tupleD : List D → Option D
  | [.lst ds] => some (.tup ds)
  | [.fz ds] => some (.tup ds)
  | [.tup ds] => some (.tup ds)
  | _ => none
theorem c_tuple : ∃ r, CallR X (.type "tuple") r ∧ OpN X.K r tupleD := by
  refine ⟨_, call_tuple_of, fun xs d e M H vs Q m qs k => ?_⟩
  unfold tupleD at e
  split at e
  · cases e
    obtain ⟨v, rfl, q⟩ := qs.one
    obtain ⟨a, ws, rfl, hq, l⟩ := q.seq
    exact ⟨a, ws, rfl, .inl ⟨hq, fun p hp => k _ _ (same_upd hp) (new_tup m hp l)⟩⟩
  · cases e
    obtain ⟨v, rfl, q⟩ := qs.one
    cases q with
    | fz h n l => exact ⟨_, _, rfl, .inl ⟨.inl h, fun p hp => k _ _ (same_upd hp) (new_tup m hp l)⟩⟩
    | fzK h l => exact ⟨_, _, rfl, .inl ⟨h H, fun p hp => k _ _ (same_upd hp) (new_tup m hp l)⟩⟩
  · cases e
    obtain ⟨v, rfl, q⟩ := qs.one
    have q0 := q
    obtain ⟨a, ws, rfl, hq, l⟩ := q.seqT
    exact ⟨a, ws, rfl, .inr ⟨hq, k _ H same_rfl q0⟩⟩
  · cases e
/-- isinstance -/
def tyD : D → Option String
  | .non => some "NoneType"
  | .bl _ => some "bool"
  | .int _ => some "int"
  | .str _ => some "str"
  | .lst _ => some "list"
  | .tup _ => some "tuple"
  | _ => none
theorem Rp.tyx {K : PySem.W.Frag} {M : MS} {H : Hp} {v : V} {d : D} {t : String} (q : Rp K M H v d) (h : tyD d = some t) : TyX K H v (.type t) := by
  cases q with
  | non => cases h; exact .base .non
  | bl b => cases h; exact .base (.bl b)
  | int i => cases h; exact .base (.int i)
  | str x => cases h; exact .base (.str x)
  | lst h1 n l => cases h; exact .base (.lst h1)
  | tup h1 l => cases h; exact .base (.tup h1)
  | tupK h1 l =>
    cases h
    obtain ⟨o, its, n, h1, h2, _⟩ := h1
    exact .kTuple h1 h2
  | _ => cases h
def tysD : List D → Option (List String)
  | [] => some []
  | .ty n :: ds => (tysD ds).map (n :: ·)
  | _ => none
def anyTy (t : String) : List String → Option Bool
  | [] => some false
  | n :: ns => match kitB t n with
    | some true => some true
    | some false => anyTy t ns
    | none => none
def isiD : List D → Option D
  | [x, .ty n] => match tyD x with
    | some t => (kitB t n).map .bl
    | none => none
  | [x, .tup ds] => match tyD x, tysD ds with
    | some t, some ns => (anyTy t ns).map .bl
    | _, _ => none
  | _ => none
theorem tysD.run {K : PySem.W.Frag} {M : MS} {H : Hp} : ∀ {ds : List D} {vs : List V} {ns : List String}, RpL K M H vs ds → tysD ds = some ns → Paired ClsV vs (ns.map Value.type) ∧ vs = ns.map V.ty
  | [], _, _, .nil, e => by cases e; exact ⟨.nil, rfl⟩
  | d :: ds, _, ns, .cons q qs, e => by
    cases d with
    | ty n =>
      cases q
      unfold tysD at e
      cases h : tysD ds with
      | none => rw [h] at e; cases e
      | some ms =>
        rw [h] at e
        cases e
        obtain ⟨h1, h2⟩ := tysD.run qs h
        exact ⟨.cons (.ty n) h1, by rw [h2]; rfl⟩
    | _ => cases e
theorem anyTy.run {K : PySem.W.Frag} {t : String} : ∀ {ns : List String} {b : Bool}, anyTy t ns = some b → PySem.W.kitAny K (.type t) (ns.map Value.type) = some b
  | [], b, e => e
  | n :: ns, b, e => by
    unfold anyTy at e
    split at e
    · rename_i h
      cases e
      exact kitAny_cons (b := true) (r := true) (kit_ty h) (fun z => by cases z) (fun _ => rfl)
    · rename_i h
      exact kitAny_cons (kit_ty h) (fun _ => anyTy.run e) (fun z => by cases z)
    · cases e
theorem c_isi : ∃ r, CallR X (.builtin "isinstance") r ∧ OpN X.K r isiD := by
  refine ⟨_, CallR.or call_isi (CallR.or call_isiT call_isiK), fun xs d e M H vs Q m qs k => ?_⟩
  unfold isiD at e
  split at e
  · split at e
    · rename_i t ht
      obtain ⟨v, u, rfl, q1, q2⟩ := qs.two
      cases q2
      cases hb : kitB t _ with
      | none => rw [hb] at e; cases e
      | some b =>
        rw [hb] at e
        cases e
        exact .inl ⟨_, _, _, _, b, rfl, .ty _, q1.tyx ht, kit_ty hb, k _ H same_rfl (.bl _)⟩
    · cases e
  · split at e
    · rename_i t ns ht hns
      obtain ⟨v, u, rfl, q1, q2⟩ := qs.two
      cases hb : anyTy t ns with
      | none => rw [hb] at e; cases e
      | some b =>
        rw [hb] at e
        cases e
        cases q2 with
        | tup h l =>
          obtain ⟨h1, h2⟩ := tysD.run l hns
          exact .inr (.inl ⟨_, _, _, _, _, b, rfl, h, h1, q1.tyx ht, anyTy.run hb, k _ H same_rfl (.bl _)⟩)
        | tupK h l =>
          obtain ⟨h1, h2⟩ := tysD.run l hns
          obtain ⟨⟨c, dd, data, sl⟩, its, n, h3, h4, h5, h6, h7⟩ := h
          have h4 : c = .type "tuple" := h4
          have h5 : data = .seq its n := h5
          subst h4 h5
          have e1 : its = (ns.map Value.type).toArray := by
            have := ClsV.all h1 h7
            rw [← this]
          rw [e1] at h3
          exact .inr (.inr ⟨_, _, dd, _, n, sl, _, b, rfl, h3, q1.tyx ht, anyTy.run hb, k _ H same_rfl (.bl _)⟩)
    · cases e
  · cases e
/-! ### ints in lists -/
def intsD : List D → Option (List Int)
  | [] => some []
  | .int i :: ds => (intsD ds).map (i :: ·)
  | _ => none
theorem intsD.run {K : PySem.W.Frag} {M : MS} {H : Hp} : ∀ {ds : List D} {vs : List V} {ns : List Int}, RpL K M H vs ds → intsD ds = some ns → vs = ns.map V.int
  | [], _, _, .nil, e => by cases e; rfl
  | d :: ds, _, ns, .cons q qs, e => by
    cases d with
    | int n =>
      cases q
      unfold intsD at e
      cases h : intsD ds with
      | none => rw [h] at e; cases e
      | some ms =>
        rw [h] at e
        cases e
        rw [intsD.run qs h]
        rfl
    | _ => cases e
theorem intsD.back {K : PySem.W.Frag} {M : MS} {H : Hp} : ∀ ns : List Int, RpL K M H (ns.map V.int) (ns.map D.int)
  | [] => .nil
  | n :: ns => .cons (.int n) (intsD.back ns)
theorem intsD.map : ∀ ns : List Int, intsD (ns.map D.int) = some ns
  | [] => rfl
  | n :: ns => by
    show (intsD (ns.map D.int)).map (n :: ·) = some (n :: ns)
    rw [intsD.map ns]
    rfl
def sortI (ns : List Int) : List Int := ns.mergeSort (fun a b => decide (a ≤ b))
theorem sortI_perm (ns : List Int) : (sortI ns).Perm ns := List.mergeSort_perm ns _
theorem sortI_sorted (ns : List Int) : (sortI ns).Pairwise (· ≤ ·) := by
  have h := List.pairwise_mergeSort (le := fun a b : Int => decide (a ≤ b)) (fun a b c h1 h2 => decide_eq_true (Int.le_trans (of_decide_eq_true h1) (of_decide_eq_true h2))) (fun a b => by
    rcases Int.le_total a b with h | h
    · rw [decide_eq_true h]; rfl
    · rw [decide_eq_true h, Bool.or_true]) ns
  exact h.imp fun h => of_decide_eq_true h
theorem sortI_uniq {ns ms : List Int} (h : ms.Perm ns) (hs : ms.Pairwise (· ≤ ·)) : ms = sortI ns :=
  List.Perm.eq_of_pairwise (fun a b _ _ h1 h2 => Int.le_antisymm h1 h2) hs (sortI_sorted ns) (h.trans (sortI_perm ns).symm)
def sortedN : List D → Option (List D)
  | [.lst ds] => (intsD ds).map fun ns => (sortI ns).map .int
  | _ => none
theorem c_sorted : ∃ r, CallR X (.builtin "sorted") r ∧ OpW X.K r sortedN := by
  refine ⟨_, cr_sortedI, fun xs ds e M H vs Q m qs k => ?_⟩
  unfold sortedN at e
  split at e
  · rename_i es
    obtain ⟨v, rfl, q⟩ := qs.one
    obtain ⟨a, ws, rfl, hq, l⟩ := q.seq
    cases h : intsD es with
    | none => rw [h] at e; cases e
    | some ns =>
      rw [h] at e
      cases e
      rw [intsD.run l h] at hq
      refine ⟨a, ns, rfl, hq, fun ns' p h1 h2 hp => ?_⟩
      rw [sortI_uniq h1 h2]
      exact k p _ H same_rfl hp (intsD.back _)
  · cases e
def sumD : List D → Option D
  | [.lst ds] => (intsD ds).map fun ns => .int ns.sum
  | _ => none
theorem c_sum (hc : X.calm = true) : ∃ r, CallR X (.builtin "sum") r ∧ OpN X.K r sumD := by
  refine ⟨_, cr_sum hc, fun xs d e M H vs Q m qs k => ?_⟩
  unfold sumD at e
  split at e
  · rename_i es
    obtain ⟨v, rfl, q⟩ := qs.one
    obtain ⟨a, ws, rfl, hq, l⟩ := q.seq
    cases h : intsD es with
    | none => rw [h] at e; cases e
    | some ns =>
      rw [h] at e
      cases e
      rw [intsD.run l h] at hq
      exact ⟨a, ns, rfl, hq, k _ H same_rfl (.int _)⟩
  · cases e
def maxI : Int → List Int → Int
  | a, [] => a
  | a, b :: r => maxI (if a < b then b else a) r
def minI : Int → List Int → Int
  | a, [] => a
  | a, b :: r => minI (if b < a then b else a) r
theorem maxI_spec : ∀ (r : List Int) (a : Int), (maxI a r = a ∨ maxI a r ∈ r) ∧ a ≤ maxI a r ∧ ∀ y ∈ r, y ≤ maxI a r
  | [], a => ⟨.inl rfl, Int.le_refl _, fun y hy => by cases hy⟩
  | b :: r, a => by
    obtain ⟨h1, h2, h3⟩ := maxI_spec r (if a < b then b else a)
    unfold maxI
    refine ⟨?_, ?_, fun y hy => ?_⟩
    · rcases h1 with h1 | h1
      · rw [h1]
        split
        · exact .inr List.mem_cons_self
        · exact .inl rfl
      · exact .inr (List.mem_cons_of_mem _ h1)
    · refine Int.le_trans ?_ h2
      split <;> omega
    · rcases List.mem_cons.mp hy with rfl | hy
      · refine Int.le_trans ?_ h2
        split <;> omega
      · exact h3 y hy
theorem minI_spec : ∀ (r : List Int) (a : Int), (minI a r = a ∨ minI a r ∈ r) ∧ minI a r ≤ a ∧ ∀ y ∈ r, minI a r ≤ y
  | [], a => ⟨.inl rfl, Int.le_refl _, fun y hy => by cases hy⟩
  | b :: r, a => by
    obtain ⟨h1, h2, h3⟩ := minI_spec r (if b < a then b else a)
    unfold minI
    refine ⟨?_, ?_, fun y hy => ?_⟩
    · rcases h1 with h1 | h1
      · rw [h1]
        split
        · exact .inr List.mem_cons_self
        · exact .inl rfl
      · exact .inr (List.mem_cons_of_mem _ h1)
    · refine Int.le_trans h2 ?_
      split <;> omega
    · rcases List.mem_cons.mp hy with rfl | hy
      · refine Int.le_trans h2 ?_
        split <;> omega
      · exact h3 y hy
def maxD : List D → Option D
  | [.lst ds] => match intsD ds with
    | some (a :: r) => some (.int (maxI a r))
    | _ => none
  | [.int i, .int j] => some (.int (if j > i then j else i))
  | _ => none
def minD : List D → Option D
  | [.lst ds] => match intsD ds with
    | some (a :: r) => some (.int (minI a r))
    | _ => none
  | [.int i, .int j] => some (.int (if j < i then j else i))
  | _ => none
theorem c_max (hc : X.calm = true) : ∃ r, CallR X (.builtin "max") r ∧ OpN X.K r maxD := by
  refine ⟨_, CallR.or (cr_max hc) (call_max2 hc), fun xs d e M H vs Q m qs k => ?_⟩
  unfold maxD at e
  split at e
  · obtain ⟨v, rfl, q⟩ := qs.one
    obtain ⟨a, ws, rfl, hq, l⟩ := q.seq
    split at e
    · rename_i b r h
      cases e
      rw [intsD.run l h] at hq
      obtain ⟨h1, h2, h3⟩ := maxI_spec r b
      refine .inl ⟨a, b :: r, rfl, hq, Nat.succ_pos _, fun n hn hb => ?_⟩
      have e1 : n = maxI b r := by
        refine Int.le_antisymm ?_ (hb _ ?_)
        · rcases List.mem_cons.mp hn with rfl | hn
          · exact h2
          · exact h3 n hn
        · rcases h1 with h1 | h1
          · rw [h1]; exact List.mem_cons_self
          · exact List.mem_cons_of_mem _ h1
      rw [e1]
      exact k _ H same_rfl (.int _)
    · cases e
  · cases e
    obtain ⟨v, u, rfl, q1, q2⟩ := qs.two
    cases q1
    cases q2
    exact .inr ⟨_, _, rfl, k _ H same_rfl (.int _)⟩
  · cases e
theorem c_min (hc : X.calm = true) : ∃ r, CallR X (.builtin "min") r ∧ OpN X.K r minD := by
  refine ⟨_, CallR.or (cr_min hc) (call_min2 hc), fun xs d e M H vs Q m qs k => ?_⟩
  unfold minD at e
  split at e
  · obtain ⟨v, rfl, q⟩ := qs.one
    obtain ⟨a, ws, rfl, hq, l⟩ := q.seq
    split at e
    · rename_i b r h
      cases e
      rw [intsD.run l h] at hq
      obtain ⟨h1, h2, h3⟩ := minI_spec r b
      refine .inl ⟨a, b :: r, rfl, hq, Nat.succ_pos _, fun n hn hb => ?_⟩
      have e1 : n = minI b r := by
        refine Int.le_antisymm (hb _ ?_) ?_
        · rcases h1 with h1 | h1
          · rw [h1]; exact List.mem_cons_self
          · exact List.mem_cons_of_mem _ h1
        · rcases List.mem_cons.mp hn with rfl | hn
          · exact h2
          · exact h3 n hn
      rw [e1]
      exact k _ H same_rfl (.int _)
    · cases e
  · cases e
    obtain ⟨v, u, rfl, q1, q2⟩ := qs.two
    cases q1
    cases q2
    exact .inr ⟨_, _, rfl, k _ H same_rfl (.int _)⟩
  · cases e
/-- repr -/
def reprD : List D → Option D
  | [x] => match toPy x with
    | some d => if d.showable = true ∧ d.hasDict = false ∧ d.depth < 60 ∧ d.shown.length ≤ sizeLine then some (.str d.shown) else none
    | none => none
  | _ => none
theorem c_repr (hg : X.A.guards = some []) (hu : X.A.units + 64 < cLine) : ∃ r, CallR X (.builtin "repr") r ∧ OpN X.K r reprD := by
  refine ⟨fun vs H Q => ∃ v d, vs = [v] ∧ Dp X.K H v d ∧ d.showable = true ∧ d.hasDict = false ∧ d.depth < 60 ∧ d.shown.length ≤ sizeLine ∧ Q (.str d.shown) H, ?_, fun xs d e M H vs Q m qs k => ?_⟩
  · intro pins s σ H vs us Q I r h
    obtain ⟨v, d, rfl, hd, h1, h2, h3, h4, q⟩ := h
    obtain ⟨u, rfl, ru⟩ := vals1 r
    cases hd with
    | non => cases ru; exact PySem.P.repr_of_none ⟨.str _, H, I.tok _, ⟨_, rfl⟩, by simpa only [PyData.shown] using q⟩
    | bl b => cases ru; exact PySem.P.repr_of_bool ⟨.str _, H, I.tok _, ⟨_, rfl⟩, by simpa only [PyData.shown] using q⟩
    | int i =>
      obtain ⟨t, rfl⟩ := ru
      exact PySem.P.repr_of_int (by simpa [PyData.showable] using h1) ⟨.str _, H, I.tok _, ⟨_, rfl⟩, by simpa only [PyData.shown] using q⟩
    | str x =>
      obtain ⟨t, rfl⟩ := ru
      exact PySem.P.repr_of_str ⟨.str _, H, I.tok _, ⟨_, rfl⟩, by simpa only [PyData.shown] using q⟩ (by simpa only [PyData.shown] using h4)
    | @lst a xs ds hs ha =>
      cases ru
      obtain ⟨as, hr⟩ := Dp.reads I (.list ds) (.ref a) (.ref a) (.lst hs ha) rfl
      exact repr_of_reads' hr h1 (PySem.PyData.noDict_hsm h2) hg (by omega) (fun _ _ e => e) (fun h' u tk hk => ⟨.str _, H, I.kept hk, ⟨u, rfl⟩, q⟩) h4
    | @tup a xs ds hs ha =>
      cases ru
      obtain ⟨as, hr⟩ := Dp.reads I (.tuple ds) (.ref a) (.ref a) (.tup hs ha) rfl
      exact repr_of_reads' hr h1 (PySem.PyData.noDict_hsm h2) hg (by omega) (fun _ _ e => e) (fun h' u tk hk => ⟨.str _, H, I.kept hk, ⟨u, rfl⟩, q⟩) h4
  · unfold reprD at e
    split at e
    · split at e
      · split at e
        · rename_i d hd hc
          cases e
          obtain ⟨v, rfl, q⟩ := qs.one
          exact ⟨v, d, rfl, q.dp hd, hc.1, hc.2.1, hc.2.2.1, hc.2.2.2, k _ H same_rfl (.str _)⟩
        · cases e
      · cases e
    · cases e
/-- all, any of bools -/
def blsD : List D → Option (List Bool)
  | [] => some []
  | .bl i :: ds => (blsD ds).map (i :: ·)
  | _ => none
theorem blsD.run {K : PySem.W.Frag} {M : MS} {H : Hp} : ∀ {ds : List D} {vs : List V} {ns : List Bool}, RpL K M H vs ds → blsD ds = some ns → vs = ns.map V.bl
  | [], _, _, .nil, e => by cases e; rfl
  | d :: ds, _, ns, .cons q qs, e => by
    cases d with
    | bl n =>
      cases q
      unfold blsD at e
      cases h : blsD ds with
      | none => rw [h] at e; cases e
      | some ms =>
        rw [h] at e
        cases e
        rw [blsD.run qs h]
        rfl
    | _ => cases e
def allD : List D → Option D
  | [.lst ds] => (blsD ds).map fun bs => .bl (bs.all id)
  | _ => none
theorem c_all (hc : X.calm = true) : ∃ r, CallR X (.builtin "all") r ∧ OpN X.K r allD := by
  refine ⟨_, cr_all hc, fun xs d e M H vs Q m qs k => ?_⟩
  unfold allD at e
  split at e
  · rename_i es
    obtain ⟨v, rfl, q⟩ := qs.one
    obtain ⟨a, ws, rfl, hq, l⟩ := q.seq
    cases h : blsD es with
    | none => rw [h] at e; cases e
    | some ns =>
      rw [h] at e
      cases e
      rw [blsD.run l h] at hq
      exact ⟨a, ns, rfl, hq, k _ H same_rfl (.bl _)⟩
  · cases e
/-! ### ranges -/
def rngD (a b : Int) : List D := (List.range (b - a).toNat).map fun i => D.int (a + (i : Nat))
theorem rngD.run {K : PySem.W.Frag} {M : MS} {H : Hp} (a b : Int) : RpL K M H (rgV a b) (rngD a b) := by
  unfold rgV rngD
  generalize List.range (b - a).toNat = l
  induction l with
  | nil => exact .nil
  | cons i l ih => exact .cons (.int _) ih
def sm62 (a : Int) : Bool := decide (-(2 ^ 62) ≤ a ∧ a < 2 ^ 62)
def rng1F (f : F D) : F (List D) := fun s => (f s).bind fun x s1 => match x with
  | .int n => if sm62 n = true then .ok (rngD 0 n) s1 else .no
  | _ => .no
def rng2F (f g : F D) : F (List D) := fun s => (f s).bind fun x s1 => (g s1).bind fun y s2 => match x, y with
  | .int a, .int b => if sm62 a = true ∧ sm62 b = true then .ok (rngD a b) s2 else .no
  | _, _ => .no
theorem wk_rng {K : PySem.W.Frag} {M : MS} {H : Hp} {a b : Int} : Wk K M H (Itr a (b - a).toNat) (rngD a b) where
  go := fun i d M' H' m ev e => by
    unfold rngD at e
    rw [List.getElem?_map] at e
    cases h : (List.range (b - a).toNat)[i]? with
    | none => rw [h] at e; cases e
    | some j =>
      rw [h] at e
      cases e
      obtain ⟨hi, hj⟩ := List.getElem?_eq_some_iff.mp h
      rw [List.length_range] at hi
      rw [List.getElem_range] at hj
      subst hj
      refine ⟨hi, fun x H'' y => ?_⟩
      obtain ⟨rfl, rfl⟩ := y
      exact ⟨same_rfl, .int _⟩
  stop := fun M' H' m ev => by
    show (b - a).toNat ≤ (rngD a b).length
    unfold rngD
    rw [List.length_map, List.length_range]
    exact Nat.le_refl _
variable {B : Bs} {W : WX} {e e2 tg : Expr} {f g : F D} {p pos : Pos}
theorem si_rng1 (hg : Gl X "range") (hm : X.mg "range" = none) (he : SE X B W e f) (hs : starEach [e] X.env = [(false, eval e X.env)] := by rfl) : SI X B W tg (.Call (.Name "range" p) [e] [] pos) (rng1F f) := by
  refine PI.imp (pi_range1 hg hm (pa_cons he pa_nil hs) hs) fun σ H Q ⟨M, s, r, p⟩ => ⟨M, s, r, PostI.bind p fun x s1 M1 H1 v r1 q1 ev1 p1 => ?_⟩
  split at p1
  · split at p1
    · rename_i n hn
      cases q1
      have hn := of_decide_eq_true hn
      refine ⟨n, rfl, hn.1, hn.2, ?_⟩
      have := p1.out r1 (J := Itr 0 (n - 0).toNat) wk_rng
      rw [Int.sub_zero] at this
      exact this
    · exact p1.elim
  · exact p1.elim
theorem si_rng2 (hg : Gl X "range") (hm : X.mg "range" = none) (he : SE X B W e f) (he2 : SE X B W e2 g) (hs : starEach [e, e2] X.env = [(false, eval e X.env), (false, eval e2 X.env)] := by rfl) (hs2 : starEach [e2] X.env = [(false, eval e2 X.env)] := by rfl) : SI X B W tg (.Call (.Name "range" p) [e, e2] [] pos) (rng2F f g) := by
  refine PI.imp (pi_range2 hg hm (pa_cons he (pa_cons he2 pa_nil hs2) (by rw [hs, hs2])) hs hs2) fun σ H Q ⟨M, s, r, p⟩ => ⟨M, s, r, PostI.bind p fun x s1 M1 H1 v r1 q1 ev1 p1 => ⟨M1, s1, r1, PostI.bind p1 fun y s2 M2 H2 u r2 q2 ev2 p2 => ?_⟩⟩
  split at p2
  · split at p2
    · rename_i a b hn
      cases q1
      cases q2
      have h1 := of_decide_eq_true hn.1
      have h2 := of_decide_eq_true hn.2
      exact ⟨a, b, rfl, ⟨h1.1, h1.2, h2.1, h2.2⟩, p2.out r2 wk_rng⟩
    · exact p2.elim
  · exact p2.elim
/-- list(range(..)), tuple(range(..)) -/
def rngOk (a b : Int) : Bool := decide (-(2 ^ 62) ≤ a ∧ a < 2 ^ 62 ∧ -(2 ^ 62) ≤ b ∧ b < 2 ^ 62 ∧ (b - a).toNat ≤ 2 ^ 24)
theorem rngOk.run {a b : Int} (h : rngOk a b = true) : RgOk a b := by
  unfold rngOk at h
  have h2 := of_decide_eq_true h
  exact h2
def lrng1N (f : F D) : F (List D) := fun s => (f s).bind fun x s1 => match x with
  | .int n => if rngOk 0 n = true then .ok (rngD 0 n) s1 else .no
  | _ => .no
def lrng2N (f g : F D) : F (List D) := fun s => (f s).bind fun x s1 => (g s1).bind fun y s2 => match x, y with
  | .int a, .int b => if rngOk a b = true then .ok (rngD a b) s2 else .no
  | _, _ => .no
theorem sn_list1 {p' pos' : Pos} (hc : X.calm = true) (hgl : Gl X "list") (hml : X.mg "list" = none) (hg : Gl X "range") (hm : X.mg "range" = none) (he : SE X B W e f) (na : starEach [e] X.env = (false, eval e X.env) :: starEach [] X.env := by rfl)
    (nb : starEach [.Call (.Name "range" p) [e] [] pos] X.env = (false, eval (.Call (.Name "range" p) [e] [] pos) X.env) :: starEach [] X.env := by rfl) : SN X B W (.Call (.Name "list" p') [.Call (.Name "range" p) [e] [] pos] [] pos') (lrng1N f) := by
  refine PE.imp (pe_listRg hc hgl hml (prg_1 hg hm he na) nb) fun σ H Q ⟨M, s, r, p⟩ => ⟨M, s, r, PostN.bind p fun x s1 M1 H1 v r1 q1 ev1 p1 => ?_⟩
  split at p1
  · split at p1
    · rename_i n hn
      cases q1
      exact ⟨n, rfl, rngOk.run hn, fun q hq => p1.laid r1 hq (rngD.run _ _)⟩
    · exact p1.elim
  · exact p1.elim
theorem sn_list2 {p' pos' : Pos} (hc : X.calm = true) (hgl : Gl X "list") (hml : X.mg "list" = none) (hg : Gl X "range") (hm : X.mg "range" = none) (he : SE X B W e f) (he2 : SE X B W e2 g) (na : starEach [e, e2] X.env = (false, eval e X.env) :: starEach [e2] X.env := by rfl)
    (nc : starEach [e2] X.env = (false, eval e2 X.env) :: starEach [] X.env := by rfl) (hpl : (backTo pos (starEach [e2] X.env)).any (·.1) = false := by rfl)
    (nb : starEach [.Call (.Name "range" p) [e, e2] [] pos] X.env = (false, eval (.Call (.Name "range" p) [e, e2] [] pos) X.env) :: starEach [] X.env := by rfl) : SN X B W (.Call (.Name "list" p') [.Call (.Name "range" p) [e, e2] [] pos] [] pos') (lrng2N f g) := by
  refine PE.imp (pe_listRg hc hgl hml (prg_2 hg hm he he2 na nc hpl) nb) fun σ H Q ⟨M, s, r, p⟩ => ⟨M, s, r, PostN.bind p fun x s1 M1 H1 v r1 q1 ev1 p1 => ⟨M1, s1, r1, PostN.bind p1 fun y s2 M2 H2 u r2 q2 ev2 p2 => ?_⟩⟩
  split at p2
  · split at p2
    · rename_i a b hn
      cases q1
      cases q2
      exact ⟨a, b, rfl, rfl, rngOk.run hn, fun q hq => p2.laid r2 hq (rngD.run _ _)⟩
    · exact p2.elim
  · exact p2.elim
/-- a new list as a value -/
def lstF' (k : F (List D)) : F D := fun s => (k s).bind fun ds s1 => .ok (.lst ds) s1
theorem SR.letgo {M : MS} {σ : L2.St} {H : Hp} {s : List Sl} {a : Addr} {ds : List D} (r : SR B M σ H s) (o : Owned B σ s M H a ds) : SR B (Wout M a) σ H s ∧ Rp B.K (Wout M a) H (.ref a) (.lst ds) := by
  obtain ⟨xs, h1, h2, h3, h4, h5, h6⟩ := o
  have sb : Ev M H (Wout M a) H := .sub fun b z => z.1
  have nmc : ¬ B.Mc a := fun z => r.bm.there h3 z
  refine ⟨?_, .lst h1 (fun z => z.2 rfl) (h4.move r.mo sb)⟩
  exact {
    va := fun i d e => let ⟨v, e1, q⟩ := r.va i d e; ⟨v, e1, q.move r.mo sb⟩
    ow := fun i d e => let ⟨b, zs, e1, q, m, n, l⟩ := r.ow i d e; ⟨b, zs, e1, q, ⟨m, fun z => h6 i d e (z ▸ e1)⟩, n, l.move r.mo sb⟩
    io := fun i d e => let ⟨z, b, zs, p, e1, q, m, l⟩ := r.io i d e; ⟨z, b, zs, p, e1, q, ⟨m, fun y => nmc (y ▸ (r.pa b p).1)⟩, l.move r.mo sb⟩
    pa := r.pa
    ne := r.ne
    mo := fun b z => r.mo b z.1
    up := fun b z => ⟨r.up b z, fun y => nmc (y ▸ z)⟩
    dn := fun b z => r.dn b z.1
    st := r.st
    bm := r.bm
    lk := fun b o e => by
      obtain ⟨g1, g2, g3⟩ := r.lk b o e
      exact ⟨⟨g1, fun z => by rw [z, h5] at e; cases e⟩, g2, g3⟩
    len := r.len }
theorem se_new {k : F (List D)} (h : SN X B W e k) : SE X B W e (lstF' k) := PE.imp h fun σ H Q ⟨M, s, r, p⟩ => by
  refine ⟨M, s, r, ?_⟩
  unfold lstF' at p
  cases hk : k s with
  | no => rw [hk] at p; exact p.elim
  | er x s1 => rw [hk] at p; exact p
  | ok ds s1 =>
    rw [hk, R.bind_ok] at p
    intro a H' M' r' o ev
    obtain ⟨r2, q⟩ := r'.letgo o
    exact p (.ref a) H' _ r2 q (ev.trans (.sub fun b z => z.1))
end
end Fx

set_option Elab.async false
set_option linter.all false
set_option maxRecDepth 100000
namespace Fx
open PySem L2 PyProof.Rows
/-! ### min, max of a list of tuples of ints: the loop with comparisons that may look at the state of the walk -/
def CmpAt (prog : Program) (w : World) (A : Around) (op : CmpOp) (P : Nat → Value → Prop) (St : Nat → Heap → Prop) (bt : Nat → Nat → Bool) : Prop :=
  ∀ k i j vi vj (s : Shared) (Q : Value → Shared → Prop) (E : Value → Shared → Prop), P i vi → P j vj → St k s.heap → Q (.bool (bt i j)) s → wpAny (model prog w) A (richCompare op vi vj) Q E s
section
variable {prog : Program} {w : World} {A : Around} {R : Result → Shared → Prop} {I : Addr} {fp wr : List Addr} {n : Nat} {P : Nat → Value → Prop} {St : Nat → Heap → Prop}
theorem min_loopA (W : Walks prog w A.in1 I fp wr n P St) (bt : Nat → Nat → Bool) (cmp : CmpAt prog w A.in1 .Lt P St bt) (S : Addr) (nf : S ∉ fp) :
    ∀ (k j : Nat) (s : Shared) (vb : Value) (c : Nat), n - (j + 1) = k → j + 1 ≤ n → St (j + 1) s.heap → P (argBest bt j) vb →
    s.heap.get? S = some { cls := .type "list", dict := none, data := .seq #[vb, vb] c, slots := #[] } →
    (∀ v g1 tk1, P (argBest bt (n - 1)) v → (∀ b o, b ∉ wr → b ≠ S → s.heap.get? b = some o → g1.get? b = some o) → R (.ok (.ret v)) { s with heap := g1, toks := tk1 }) →
    codeAny (model prog w) A (.builtin "min.loop" ⟨[.ref I, .none, .ref S], []⟩) R s := by
  have nw : S ∉ wr := fun h => nf (W.sub _ h)
  have en : (toString "min" ++ toString ".loop" : String) = "min.loop" := by decide
  intro k
  induction k with
  | zero =>
    intro j s vb c kp jn st0 pb gS fin
    have ej : j + 1 = n := by omega
    refine codeAny_builtin F.entry_min_loop ?_
    rw [Around.under_plainId F.plain_min_loop _]
    show wpAny _ A.in1 (seqItems? (.ref S) >>= _) _ _ s
    refine wpAny_bind (wpAny_seqItems gS rfl ?_)
    show wpAny _ A.in1 (tryCatch (pyNext (.ref I)) _ >>= _) _ _ s
    refine wpAny_bind (wpAny_tryCatch (W.done s _ _ (ej ▸ st0) fun g1 tk1 kp1 => ?_))
    have gS1 := kp1 S _ nw gS
    show wpAny _ A.in1 (updateSeq S (fun _ => #[]) >>= _) _ _ _
    refine wpAny_bind ?_
    refine wpAny_updateSeq gS1 rfl (wpAny_bind (wpAny_letGo (wpAny_pure ?_)))
    refine fin vb _ tk1 (by rw [← ej]; exact pb) fun b o nbw neS e => (Heap.get?_update_other _ _ (Ne.symm neS)).trans (kp1 b o nbw e)
  | succ k ih =>
    intro j s vb c kp jn st0 pb gS fin
    have jlt : j + 1 < n := by omega
    refine codeAny_builtin F.entry_min_loop ?_
    rw [Around.under_plainId F.plain_min_loop _]
    show wpAny _ A.in1 (seqItems? (.ref S) >>= _) _ _ s
    refine wpAny_bind (wpAny_seqItems gS rfl ?_)
    show wpAny _ A.in1 (tryCatch (pyNext (.ref I)) _ >>= _) _ _ s
    refine wpAny_bind (wpAny_tryCatch (W.item (j + 1) s _ _ jlt st0 fun v g1 tk1 p0 st1 kp1 => ?_))
    have gS1 := kp1 S _ nw gS
    show wpAny _ A.in1 (tryCatch (holding [v, v] (richCompare .Lt v vb >>= _)) _ >>= _) _ _ _
    refine wpAny_bind (wpAny_tryCatch (wpAny_holding (wpAny_bind (cmp _ (j + 1) (argBest bt j) v vb _ _ _ p0 pb st1 ?_))))
    refine wpAny_bind (wpAny_holding (wpAny_truthy_bool ?_))
    refine wpAny_bind (wpAny_letGo (wpAny_pure ?_))
    cases ebt : bt (j + 1) (argBest bt j) with
    | true =>
      simp only [if_true]
      refine wpAny_bind ?_
      refine wpAny_updateSeq gS1 rfl (wpAny_bind (wpAny_letGo ?_))
      rw [en]
      refine wpAny_pure ⟨plainId_quiet F.plain_min_loop _, ih (j + 1) _ v _ (by omega) jlt (W.frame _ _ _ st1 fun b ibf o e => ?_) (by simp only [argBest, ebt, if_true]; exact p0) (Heap.get?_update_self _ gS1 rfl)
        fun v1 g2 tk2 p1 kp2 => ?_⟩
      · exact (Heap.get?_update_other _ _ (fun h : S = b => nf (by rw [h]; exact ibf))).trans e
      · exact fin v1 g2 tk2 p1 fun b o nbw neS e => kp2 b o nbw neS ((Heap.get?_update_other _ _ (Ne.symm neS)).trans (kp1 b o nbw e))
    | false =>
      simp only [Bool.false_eq_true, if_false]
      refine wpAny_bind (wpAny_letGo ?_)
      rw [en]
      refine wpAny_pure ⟨plainId_quiet F.plain_min_loop _, ih (j + 1) _ vb c (by omega) jlt st1 (by simp only [argBest, ebt, Bool.false_eq_true, if_false]; exact pb) gS1 fun v1 g2 tk2 p1 kp2 => ?_⟩
      exact fin v1 g2 tk2 p1 fun b o nbw neS e => kp2 b o nbw neS (kp1 b o nbw e)
theorem min_firstA (W : Walks prog w A.in1 I fp wr n P St) (bt : Nat → Nat → Bool) (cmp : CmpAt prog w A.in1 .Lt P St bt) (S : Addr) (nf : S ∉ fp) (pos0 : 0 < n) {s : Shared} {c : Nat} (st0 : St 0 s.heap)
    (gS : s.heap.get? S = some { cls := .type "list", dict := none, data := .seq #[] c, slots := #[] })
    (fin : ∀ v g1 tk1, P (argBest bt (n - 1)) v → (∀ b o, b ∉ wr → b ≠ S → s.heap.get? b = some o → g1.get? b = some o) → R (.ok (.ret v)) { s with heap := g1, toks := tk1 }) :
    codeAny (model prog w) A (.builtin "min.loop" ⟨[.ref I, .none, .ref S], []⟩) R s := by
  have nw : S ∉ wr := fun h => nf (W.sub _ h)
  have en : (toString "min" ++ toString ".loop" : String) = "min.loop" := by decide
  refine codeAny_builtin F.entry_min_loop ?_
  rw [Around.under_plainId F.plain_min_loop _]
  show wpAny _ A.in1 (seqItems? (.ref S) >>= _) _ _ s
  refine wpAny_bind (wpAny_seqItems gS rfl ?_)
  show wpAny _ A.in1 (tryCatch (pyNext (.ref I)) _ >>= _) _ _ s
  refine wpAny_bind (wpAny_tryCatch (W.item 0 s _ _ pos0 st0 fun v g1 tk1 p0 st1 kp1 => ?_))
  have gS1 := kp1 S _ nw gS
  show wpAny _ A.in1 (updateSeq S (fun _ => #[v, v]) >>= _) _ _ _
  refine wpAny_bind ?_
  refine wpAny_updateSeq gS1 rfl ?_
  rw [en]
  refine wpAny_pure ⟨plainId_quiet F.plain_min_loop _, min_loopA W bt cmp S nf _ 0 _ v _ rfl pos0 (W.frame _ _ _ st1 fun b ibf o e => ?_) p0 (Heap.get?_update_self _ gS1 rfl) fun v1 g2 tk2 p1 kp2 => ?_⟩
  · exact (Heap.get?_update_other _ _ (fun h : S = b => nf (by rw [h]; exact ibf))).trans e
  · exact fin v1 g2 tk2 p1 fun b o nbw neS e => kp2 b o nbw neS ((Heap.get?_update_other _ _ (Ne.symm neS)).trans (kp1 b o nbw e))
end
section
variable {prog : Program} {w : World} {A : Around} {E : Value → Shared → Prop} {s : Shared}
theorem min_walkA {x : Value} {Q : Value → Shared → Prop}
    (h : wpAny (model prog w) A.in1 (pyIter x) (fun it s2 => ∃ I fp wr n P St bt, it = .ref I ∧ Walks prog w A.in1 I fp wr n P St ∧ St 0 s2.heap ∧ (∀ b ∈ fp, b < s2.heap.objs.size) ∧ 0 < n ∧ CmpAt prog w A.in1 .Lt P St bt ∧
      ∀ v g1 tk1, P (argBest bt (n - 1)) v → (∀ b o, b ∉ wr → s2.heap.get? b = some o → g1.get? b = some o) → Q v { s2 with heap := g1, toks := tk1 }) E s) :
    wpAny (model prog w) A (call (.builtin "min") [x]) Q E s := by
  have en : (toString "min" ++ toString ".loop" : String) = "min.loop" := by decide
  refine call_function_tree F.kind_min F.plain_min F.entry_min (F.args_min1 _) ?_
  show wpAny _ A.in1 (Builtin.Builtins.bindParams "min" ["key", "default"] 0 ⟨[], []⟩ >>= _) _ _ s
  refine wpAny_bind (wpAny_of_eq (show Builtin.Builtins.bindParams "min" ["key", "default"] 0 ⟨[], []⟩ = pure [none, none] from rfl) ?_)
  refine wpAny_bind (wpAny_pure ?_)
  refine wpAny_bind (wpAny_mono h (fun it s2 h2 => ?_) fun _ _ e => e)
  obtain ⟨I, fp, wr, n, P, St, bt, rfl, W, st0, fpl, pos0, cmp, q0⟩ := h2
  refine wpAny_bind (wpAny_newObj_type ?_)
  have nf : s2.heap.objs.size ∉ fp := fun hm => Nat.lt_irrefl _ (fpl _ hm)
  rw [en]
  refine wpAny_pure ⟨plainId_quiet F.plain_min_loop _, min_firstA W bt cmp s2.heap.objs.size nf pos0 (W.frame _ _ _ st0 fun b _ o e => Heap.get?_push_of_some _ e) (Heap.get?_push_size _ rfl) fun v g1 tk1 p0 kp => ?_⟩
  exact q0 v g1 tk1 p0 fun b o nbw e => kp b o nbw (Nat.ne_of_lt (Heap.lt_size e)) (Heap.get?_push_of_some _ e)
def lexB (nss : List (List Int)) (i j : Nat) : Bool := HT.lexLt (nss.getD i []) (nss.getD j [])
def refsOf (vs : List Value) : List Addr := vs.filterMap fun v => match v with
  | .ref t => some t
  | _ => none
theorem mem_refsOf {vs : List Value} {t : Addr} (h : Value.ref t ∈ vs) : t ∈ refsOf vs := List.mem_filterMap.mpr ⟨_, h, rfl⟩
theorem refsOf_mem {vs : List Value} {t : Addr} (h : t ∈ refsOf vs) : Value.ref t ∈ vs := by
  obtain ⟨v, hv, e⟩ := List.mem_filterMap.mp h
  split at e
  · cases e; exact hv
  · cases e
/-- the tuples of a list, as they lie -/
def TsAt (h : Heap) (vs : List Value) (nss : List (List Int)) : Prop := ∀ i v, vs[i]? = some v → TS.TupInts h v (nss.getD i [])
theorem tupInts_kept {h h' : Heap} {v : Value} {ns : List Int} (x : TS.TupInts h v ns) (k : ∀ t, v = .ref t → ∀ o, h.get? t = some o → h'.get? t = some o) : TS.TupInts h' v ns := by
  obtain ⟨t, its, e, ⟨o, ho, r⟩, hi⟩ := x
  exact ⟨t, its, e, ⟨o, k t e o ho, r⟩, hi⟩
theorem tsAt_kept {h h' : Heap} {vs : List Value} {nss : List (List Int)} (x : TsAt h vs nss) (k : ∀ t ∈ refsOf vs, ∀ o, h.get? t = some o → h'.get? t = some o) : TsAt h' vs nss :=
  fun i v e => tupInts_kept (x i v e) fun t et => k t (mem_refsOf (et ▸ List.mem_of_getElem? e))
theorem walks_tups (hh : A.handled = none) (I ax : Addr) (hne : ax ≠ I) (items : Array Value) (nss : List (List Int)) (hI : I ∉ refsOf items.toList) :
    Walks prog w A I (I :: ax :: refsOf items.toList) [I] items.size (fun i v => items[i]? = some v) (fun i h => (h.IsListIter I ax i ∧ h.IsList ax items) ∧ TsAt h items.toList nss) where
  sub := fun b hb => by simp at hb; simp [hb]
  frame := fun _ _ _ st hk => ⟨(Walks.list (prog := prog) (w := w) (A := A) hh I ax hne items).frame _ _ _ st.1 fun b hb o e => hk b (by
    rcases List.mem_cons.mp hb with rfl | hb
    · exact List.mem_cons_self
    · rcases List.mem_cons.mp hb with rfl | hb
      · exact List.mem_cons_of_mem _ List.mem_cons_self
      · cases hb) o e, tsAt_kept st.2 fun t ht o e => hk t (List.mem_cons_of_mem _ (List.mem_cons_of_mem _ ht)) o e⟩
  item := fun i s Q E hi st hQ => (Walks.list (prog := prog) (w := w) (A := A) hh I ax hne items).item i s Q E hi st.1 fun v h' tk hp hs' hk => hQ v h' tk hp ⟨hs', tsAt_kept st.2 fun t ht o e => hk t o (fun z => by
    rcases List.mem_cons.mp z with rfl | z
    · exact hI ht
    · cases z) e⟩ hk
  done := fun s Q E st hQ => (Walks.list (prog := prog) (w := w) (A := A) hh I ax hne items).done s Q E st.1 hQ
  self := fun i s Q E st hQ => (Walks.list (prog := prog) (w := w) (A := A) hh I ax hne items).self i s Q E st.1 hQ
theorem min_tups {ax : Addr} {items : Array Value} {nss : List (List Int)} {Q : Value → Shared → Prop} (hh : A.handled = none) (hu : A.units + 64 < cLine) (hl : s.heap.IsList ax items) (ht : TsAt s.heap items.toList nss) (hne : 0 < items.size)
    (h : ∀ v h' tk, items[argBest (lexB nss) (items.size - 1)]? = some v → (∀ b o, s.heap.get? b = some o → h'.get? b = some o) → Q v { s with heap := h', toks := tk }) :
    wpAny (model prog w) A (call (.builtin "min") [.ref ax]) Q E s := by
  have hlt : ax < s.heap.objs.size := by obtain ⟨_, e, _⟩ := hl; exact Heap.lt_size e
  have hr : ∀ t ∈ refsOf items.toList, t < s.heap.objs.size := fun t m => by
    obtain ⟨i, hi, e⟩ := List.getElem_of_mem (refsOf_mem m)
    obtain ⟨t', its, e', ⟨o, ho, _⟩, _⟩ := ht i _ (List.getElem?_eq_some_iff.mpr ⟨hi, e⟩)
    cases e'
    exact Heap.lt_size ho
  refine min_walkA (wpAny_pyIter_list hl ?_)
  refine ⟨_, _, _, _, _, _, lexB nss, rfl, walks_tups (A := A.in1) hh s.heap.objs.size ax (Nat.ne_of_lt hlt) items nss (fun m => Nat.lt_irrefl _ (hr _ m)),
    ⟨⟨⟨_, Heap.get?_push_size _ rfl, rfl, rfl⟩, hl.push _⟩, tsAt_kept ht fun t _ o e => Heap.get?_push_of_some _ e⟩, fun b hb => ?_, hne, ?_, fun v h' tk hP hk => ?_⟩
  · show b < (s.heap.push _).objs.size
    rw [Heap.size_push]
    rcases List.mem_cons.mp hb with rfl | hb
    · exact Nat.lt_succ_self _
    · rcases List.mem_cons.mp hb with rfl | hb
      · exact Nat.lt_succ_of_lt hlt
      · exact Nat.lt_succ_of_lt (hr _ hb)
  · intro k i j vi vj s1 Q1 E1 hi hj st q
    obtain ⟨t1, i1, rfl, p1, n1⟩ := st.2 i vi (by rw [Array.getElem?_toList]; exact hi)
    obtain ⟨t2, i2, rfl, p2, n2⟩ := st.2 j vj (by rw [Array.getElem?_toList]; exact hj)
    exact HT.lt_tupInts p1 p2 n1 n2 (show A.units + 1 < cLine by omega) q
  · exact h v h' tk hP fun b o e => hk b o (fun hm => by
      rcases List.mem_cons.mp hm with e1 | hm
      · exact absurd (e1 ▸ Heap.lt_size e) (Nat.lt_irrefl _)
      · cases hm) (Heap.get?_push_of_some _ e)
end
section
variable {X : Cx}
def rMinT (K : PySem.W.Frag) : List V → Hp → VK → Prop := fun vs H Q => ∃ (a : Addr) (xs : List V) (nss : List (List Int)), vs = [V.ref a] ∧ SqL K H a xs ∧ xs ≠ [] ∧ (∀ i x, xs[i]? = some x → TupI K H x (nss.getD i [])) ∧
  ∀ x, xs[argBest (lexB nss) (xs.length - 1)]? = some x → Q x H
theorem cr_minT (hc : X.calm = true) (hu : X.A.units + 64 < cLine) : CallR X (.builtin "min") (rMinT X.K) := by
  intro pins s σ H vs us Q I r h
  obtain ⟨a, xs, nss, rfl, hs, hne, hx, q⟩ := h
  obtain ⟨its, rv, hl, hz⟩ := I.list hs
  rw [Vals.ref1 r]
  have hlen := rv.length
  have at1 : ∀ (i : Nat) (v : Value), its[i]? = some v → ∃ x, xs[i]? = some x ∧ RelV x v := fun i v e => by
    cases hx : xs[i]? with
    | none => rw [rv.none_of hx] at e; cases e
    | some x =>
      obtain ⟨u, e1, e2⟩ := rv.get hx
      rw [e] at e1
      cases e1
      exact ⟨x, rfl, e2⟩
  refine min_tups (nss := nss) (I.ok.hd hc) hu hl.isList (fun i v e => ?_) (by rw [List.size_toArray, ← hlen]; exact List.length_pos_iff.mpr hne) fun v h' tk hv hk => ?_
  · obtain ⟨x, hx1, hx2⟩ := at1 i v (by simpa using e)
    obtain ⟨t, rfl, ht⟩ := hx i x hx1
    cases hx2
    exact tupI_raw I ht
  · rw [List.size_toArray, ← hlen] at hv
    obtain ⟨x, hx1, hx2⟩ := at1 _ v (by simpa using hv)
    exact ⟨x, H, I.kept hk, hx2, q x hx1⟩
/-- lists of tuples of ints -/
def tupsD : List D → Option (List (List Int))
  | [] => some []
  | .tup es :: ds => match intsD es, tupsD ds with
    | some ns, some nss => some (ns :: nss)
    | _, _ => none
  | _ => none
theorem tupsD.run {K : PySem.W.Frag} {M : MS} {H : Hp} : ∀ {ds : List D} {vs : List V} {nss : List (List Int)}, RpL K M H vs ds → tupsD ds = some nss → (∀ i x, vs[i]? = some x → TupI K H x (nss.getD i [])) ∧ nss.length = ds.length
  | [], _, _, .nil, e => by cases e; exact ⟨fun i x e => by simp at e, rfl⟩
  | d :: ds, v :: vs, nss, .cons q qs, e => by
    cases d with
    | tup es =>
      unfold tupsD at e
      split at e
      · rename_i ns ms h1 h2
        cases e
        obtain ⟨g1, g2⟩ := tupsD.run qs h2
        refine ⟨fun i x e => ?_, by simp [g2]⟩
        cases i with
        | zero =>
          cases e
          obtain ⟨a, ws, rfl, hq, l⟩ := q.seqT
          rw [intsD.run l h1] at hq
          exact ⟨a, rfl, hq⟩
        | succ i => exact g1 i x e
      · cases e
    | _ => cases e
def minTD : List D → Option D
  | [.lst ds] => match tupsD ds with
    | some nss => ds[argBest (lexB nss) (ds.length - 1)]?
    | none => none
  | _ => none
theorem c_minT (hc : X.calm = true) (hu : X.A.units + 64 < cLine) : ∃ r, CallR X (.builtin "min") r ∧ OpN X.K r minTD := by
  refine ⟨_, cr_minT hc hu, fun xs d e M H vs Q m qs k => ?_⟩
  unfold minTD at e
  split at e
  · obtain ⟨v, rfl, q⟩ := qs.one
    obtain ⟨a, ws, rfl, hq, l⟩ := q.seq
    split at e
    · rename_i nss h
      obtain ⟨g1, g2⟩ := tupsD.run l h
      have hl := l.length
      refine ⟨a, ws, nss, rfl, hq, fun z => ?_, g1, fun x hx => ?_⟩
      · subst z
        cases l
        cases e
      · rw [hl] at hx
        obtain ⟨x2, e2, q2⟩ := l.get e
        rw [hx] at e2
        cases e2
        exact k _ H same_rfl q2
    · cases e
  · cases e
/-! ### ranges of any ints -/
theorem turn_long {P : Program} {w : World} {K : PySem.W.Frag} {tg : Expr} (it : Addr) (lo : Int) (n : Nat) : Turn P w K tg (Itr lo n) [it] it (fun i h => IsLongIter h it (lo + (i : Nat) * 1) ((n : Int) - (i : Nat)) 1) where
  mem := List.mem_singleton.mpr rfl
  obj := fun i h st b hb => by
    obtain rfl := List.mem_singleton.mp hb
    exact ⟨_, st, fun v z => nomatch (show Data.fields _ = Data.cell v from z)⟩
  keep := fun i h h' st k => k it (List.mem_singleton.mpr rfl) _ st
  item := by
    intro X hP hw hK hc i pins s σ H E I hf st hg
    subst hP hw hK
    obtain ⟨g0, g1, g2, g3, g4, g5⟩ := hf it (List.mem_singleton.mpr rfl)
    refine (Walks.longrange (prog := X.prog) (w := X.w) (I.ok.hd hc) it lo 1 n).item i s _ _ hg st fun v h' tk hv st' kk => ?_
    obtain ⟨t, rfl⟩ := hv
    have J : Inv X pins σ H { s with heap := h', toks := tk } := I.turned (fun b o hb e => kk b o (fun z => hb (List.mem_singleton.mp z)) e) g0 g1 g3 g4 g5
    refine ⟨_, rfl, go_of (s := { s with heap := h', toks := tk }) (n := "longrange_iterator") st' rfl rfl (by decide) ⟨.int (lo + i), H, J, ⟨t, ?_⟩, ⟨rfl, rfl⟩, st', fun b hb => (hf b hb).1⟩⟩
    rw [Int.mul_one]
  done := by
    intro X hP hw hK hc i pins s σ H E I hf st hg
    subst hP hw hK
    obtain ⟨g0, g1, g2, g3, g4, g5⟩ := hf it (List.mem_singleton.mpr rfl)
    exact wpAny_pyNext_long_end (I.ok.hd hc) st (by have : n ≤ i := hg; omega) fun h' eb => ⟨rfl, I.turned (t' := s.toks) (fun b o hb e => eb b o hb e) g0 g1 g3 g4 g5⟩
  self := fun _ _ _ _ _ st h => wpAny_pyIter_longiter st h
theorem range_any {tg : Expr} {pins : List (Addr × Obj)} {σ : L2.St} {H : Hp} {s : Shared} {R : It → Hp → Prop} {E : Value → Shared → Prop} {lo hi : Int} {t u v : Tok} {tk : Nat} (I : Inv X pins σ H s) (q : R (Itr lo (hi - lo).toNat) H) :
    wpAny (model X.prog X.w) X.A (pyIter (.ref s.heap.objs.size)) (PIE X pins σ tg R) E { s with heap := s.heap.push { cls := .type "range", data := .fields #[.int lo t, .int hi u, .int 1 v] }, toks := tk } := by
  have J : Inv X pins σ H { s with heap := s.heap.push { cls := .type "range", data := .fields #[.int lo t, .int hi u, .int 1 v] }, toks := tk } := I.kept fun b o e => Heap.get?_push_of_some _ e
  have e1 : lo + ((0 : Nat) : Int) * 1 = lo := by simp
  have e2 : (((hi - lo).toNat : Nat) : Int) - ((0 : Nat) : Int) = Builtin.Range.rangeSize lo hi 1 := by rw [rangeSize_one]; split <;> omega
  have fp : ∀ b ∈ [(s.heap.push { cls := .type "range", data := .fields #[.int lo t, .int hi u, .int 1 v] }).objs.size], FpOk X pins H b := fun b hb => by
    obtain rfl := List.mem_singleton.mp hb
    exact J.fpOk (Nat.le_refl _) (J.hok.fresh (Nat.le_refl _))
  cases hs : Builtin.Range.small lo hi 1 with
  | true =>
    refine wpAny_pyIter_range (IsRange.new ..) hs ⟨_, [_], _, _, H, rfl, J.kept (t' := tk) fun b o e => Heap.get?_push_of_some _ e, turn_range _ lo (hi - lo).toNat, ?_, fp, q⟩
    show IsRangeIter _ _ (lo + ((0 : Nat) : Int) * 1) ((((hi - lo).toNat : Nat) : Int) - ((0 : Nat) : Int)) 1
    rw [e1, e2]
    exact Heap.get?_push_size _ rfl
  | false =>
    refine wpAny_pyIter_longrange (IsRange.new ..) hs ⟨_, [_], _, _, H, rfl, J.kept (t' := tk) fun b o e => Heap.get?_push_of_some _ e, turn_long _ lo (hi - lo).toNat, ?_, fp, q⟩
    show IsLongIter _ _ (lo + ((0 : Nat) : Int) * 1) ((((hi - lo).toNat : Nat) : Int) - ((0 : Nat) : Int)) 1
    rw [e1, e2]
    exact Heap.get?_push_size _ rfl
def iAny2 (ta : TA) : TI := fun σ H R => ta σ H fun vs H1 => ∃ i j : Int, vs = [.int i, .int j] ∧ R (Itr i (j - i).toNat) H1
theorem pi_any2 {tg a b : Expr} {ta : TA} {p pos : Pos} (hg : Gl X "range") (hm : X.mg "range" = none) (ha : PA X [a, b] ta) (hs : starEach [a, b] X.env = [(false, eval a X.env), (false, eval b X.env)] := by rfl) (hs2 : starEach [b] X.env = [(false, eval b X.env)] := by rfl) :
    PI X tg (.Call (.Name "range" p) [a, b] [] pos) (iAny2 ta) := ⟨fun pins s σ H R I h => by
  refine Call_ (ld_blt I hg hm (u := .type "range") (by decide +kernel) (PyProof.Rows.callWith_type1 (thn (ha.run pos pins s σ H _ I h) fun us s1 ⟨vs, H1, J, r1, i, j, e, q⟩ => ?_) (by rw [hs, hs2]) (by rw [hs2]; rfl)))
  subst e
  obtain ⟨u1, u2, rfl, ⟨t, rfl⟩, ⟨t', rfl⟩⟩ := Vals.two r1
  exact call_range_2 (range_any J q)⟩
def rngWF (f g : F D) : F (List D) := fun s => (f s).bind fun x s1 => (g s1).bind fun y s2 => match x, y with
  | .int a, .int b => .ok (rngD a b) s2
  | _, _ => .no
theorem si_rngW {B : Bs} {W : WX} {tg e e2 : Expr} {f g : F D} {p pos : Pos} (hg : Gl X "range") (hm : X.mg "range" = none) (he : SE X B W e f) (he2 : SE X B W e2 g) (hs : starEach [e, e2] X.env = [(false, eval e X.env), (false, eval e2 X.env)] := by rfl) (hs2 : starEach [e2] X.env = [(false, eval e2 X.env)] := by rfl) : SI X B W tg (.Call (.Name "range" p) [e, e2] [] pos) (rngWF f g) := by
  refine PI.imp (pi_any2 hg hm (pa_cons he (pa_cons he2 pa_nil hs2) (by rw [hs, hs2])) hs hs2) fun σ H Q ⟨M, s, r, p⟩ => ⟨M, s, r, PostI.bind p fun x s1 M1 H1 v r1 q1 ev1 p1 => ⟨M1, s1, r1, PostI.bind p1 fun y s2 M2 H2 u r2 q2 ev2 p2 => ?_⟩⟩
  split at p2
  · cases q1
    cases q2
    exact ⟨_, _, rfl, p2.out r2 wk_rng⟩
  · exact p2.elim
end
end Fx

set_option Elab.async false
set_option linter.all false
set_option maxRecDepth 100000
namespace Fx
open PySem L2 PyProof.Rows
/-! ### the rules as a printing program uses them -/
theorem bt_len : bootBuiltins "len" = some (.builtin "len") := by decide +kernel
theorem bt_isinstance : bootBuiltins "isinstance" = some (.builtin "isinstance") := by decide +kernel
theorem bt_abs : bootBuiltins "abs" = some (.builtin "abs") := by decide +kernel
theorem bt_divmod : bootBuiltins "divmod" = some (.builtin "divmod") := by decide +kernel
theorem bt_sorted : bootBuiltins "sorted" = some (.builtin "sorted") := by decide +kernel
theorem bt_sum : bootBuiltins "sum" = some (.builtin "sum") := by decide +kernel
theorem bt_max : bootBuiltins "max" = some (.builtin "max") := by decide +kernel
theorem bt_min : bootBuiltins "min" = some (.builtin "min") := by decide +kernel
theorem bt_repr : bootBuiltins "repr" = some (.builtin "repr") := by decide +kernel
theorem bt_all : bootBuiltins "all" = some (.builtin "all") := by decide +kernel
theorem bt_any : bootBuiltins "any" = some (.builtin "any") := by decide +kernel
theorem bt_int : bootBuiltins "int" = some (.type "int") := by decide +kernel
theorem bt_bool : bootBuiltins "bool" = some (.type "bool") := by decide +kernel
theorem bt_str : bootBuiltins "str" = some (.type "str") := by decide +kernel
theorem bt_list : bootBuiltins "list" = some (.type "list") := by decide +kernel
theorem bt_tuple : bootBuiltins "tuple" = some (.type "tuple") := by decide +kernel
theorem bt_dict : bootBuiltins "dict" = some (.type "dict") := by decide +kernel
theorem bt_set : bootBuiltins "set" = some (.type "set") := by decide +kernel
theorem bt_float : bootBuiltins "float" = some (.type "float") := by decide +kernel
theorem bt_bytes : bootBuiltins "bytes" = some (.type "bytes") := by decide +kernel
theorem bt_range : bootBuiltins "range" = some (.type "range") := by decide +kernel
theorem bt_enumerate : bootBuiltins "enumerate" = some (.type "enumerate") := by decide +kernel
theorem bt_zip : bootBuiltins "zip" = some (.type "zip") := by decide +kernel
theorem bt_reversed : bootBuiltins "reversed" = some (.type "reversed") := by decide +kernel
section
variable {X : Cx} {B : Bs} {W : WX} {a b c e : Expr} {es : List Expr} {f g h : F D} {k : F (List D)} {pos : Pos}
theorem se_O {op : Operator} {o : D → D → Option D} (hK : X.K = B.K) (ho : ∃ r, OpR X (binaryOp op) r ∧ Op2 X.K r o) (ha : SE X B W a f) (hb : SE X B W b g) : SE X B W (.BinOp a op b pos) (op2F o f g) := by
  obtain ⟨r, h1, h2⟩ := ho
  exact se_bin h1 (hK ▸ h2) ha hb
theorem se_C {op : CmpOp} {o : D → D → Option D} (hK : X.K = B.K) (ho : ∃ r, OpR X (compareOp op) r ∧ Op2 X.K r o) (ha : SE X B W a f) (hb : SE X B W b g) (hm : behindInMarks op b = false := by rfl) : SE X B W (.Compare a [op] [b] pos) (op2F o f g) := by
  obtain ⟨r, h1, h2⟩ := ho
  exact se_cmp h1 (hK ▸ h2) ha hb hm
theorem st_C {op : CmpOp} {o : D → D → Option D} (hK : X.K = B.K) (ho : ∃ r, OpR X (compareOp op) r ∧ Op2 X.K r o) (ha : SE X B W a f) (hb : SE X B W b g) (hm : behindInMarks op b = false := by rfl) : ST X B W (.Compare a [op] [b] pos) (tstF (op2F o f g)) := by
  obtain ⟨r, h1, h2⟩ := ho
  exact st_cmp h1 (hK ▸ h2) ha hb hm
theorem se_C2 {op op' : CmpOp} {o o' : D → D → Option D} (hK : X.K = B.K) (ho : ∃ r, OpR X (compareOp op) r ∧ Op2 X.K r o) (ho' : ∃ r, OpR X (compareOp op') r ∧ Op2 X.K r o') (ha : SE X B W a f) (hb : SE X B W b g) (hc : SE X B W c h)
    (hm : lastMarks [op, op'] [b, c] = false := by with_unfolding_all rfl) : SE X B W (.Compare a [op, op'] [b, c] pos) (chainF o o' f g h) := by
  obtain ⟨r, h1, h2⟩ := ho
  obtain ⟨r', h1', h2'⟩ := ho'
  exact se_chain h1 h1' (hK ▸ h2) (hK ▸ h2') ha hb hc hm
theorem se_neg (hK : X.K = B.K) (ha : SE X B W a f) : SE X B W (.UnaryOp .USub a pos) (op1F negD f) := by
  obtain ⟨r, h1, h2⟩ := op_negD (X := X)
  exact se_un h1 (hK ▸ h2) ha
theorem se_B {x : Str} {id : String} {p : Pos} {o : List D → Option D} (hK : X.K = B.K) (hc : ∃ r, CallR X (.builtin id) r ∧ OpN X.K r o) (hv : bootBuiltins x = some (.builtin id)) (hm : X.mg x = none) (ha : SA X B W (e :: es) k) (hg : Gl X x := by rfl) (hn : x ≠ "__name__" := by decide) (hdb : (x == ("__debug__" : Str)) = false := by decide)
    (he : starEach (e :: es) X.env = (false, eval e X.env) :: starEach es X.env := by rfl) (hpl : (backTo pos (starEach es X.env)).any (·.1) = false := by rfl) : SE X B W (.Call (.Name x p) (e :: es) [] pos) (opnF o k) := by
  obtain ⟨r, h1, h2⟩ := hc
  exact se_callB h1 (hK ▸ h2) hg hm hv ha hn hdb he hpl
theorem se_T {x : Str} {id : String} {p : Pos} {o : List D → Option D} (hK : X.K = B.K) (hc : ∃ r, CallR X (.type id) r ∧ OpN X.K r o) (hv : bootBuiltins x = some (.type id)) (hm : X.mg x = none) (ha : SA X B W (e :: es) k) (hg : Gl X x := by rfl) (hn : x ≠ "__name__" := by decide) (hdb : (x == ("__debug__" : Str)) = false := by decide)
    (he : starEach (e :: es) X.env = (false, eval e X.env) :: starEach es X.env := by rfl) (hpl : (backTo pos (starEach es X.env)).any (·.1) = false := by rfl) : SE X B W (.Call (.Name x p) (e :: es) [] pos) (opnF o k) := by
  obtain ⟨r, h1, h2⟩ := hc
  exact se_callTy h1 (hK ▸ h2) hg hm hv ha hn hdb he hpl
theorem sn_B {x : Str} {id : String} {p : Pos} {o : List D → Option (List D)} (hK : X.K = B.K) (hc : ∃ r, CallR X (.builtin id) r ∧ OpW X.K r o) (hv : bootBuiltins x = some (.builtin id)) (hm : X.mg x = none) (ha : SA X B W (e :: es) k) (hg : Gl X x := by rfl) (hn : x ≠ "__name__" := by decide) (hdb : (x == ("__debug__" : Str)) = false := by decide)
    (he : starEach (e :: es) X.env = (false, eval e X.env) :: starEach es X.env := by rfl) (hpl : (backTo pos (starEach es X.env)).any (·.1) = false := by rfl) : SN X B W (.Call (.Name x p) (e :: es) [] pos) (opnN o k) := by
  obtain ⟨r, h1, h2⟩ := hc
  exact sn_callB h1 (hK ▸ h2) hg hm hv ha hn hdb he hpl
theorem sn_T {x : Str} {id : String} {p : Pos} {o : List D → Option (List D)} (hK : X.K = B.K) (hc : ∃ r, CallR X (.type id) r ∧ OpW X.K r o) (hv : bootBuiltins x = some (.type id)) (hm : X.mg x = none) (ha : SA X B W (e :: es) k) (hg : Gl X x := by rfl) (hn : x ≠ "__name__" := by decide) (hdb : (x == ("__debug__" : Str)) = false := by decide)
    (he : starEach (e :: es) X.env = (false, eval e X.env) :: starEach es X.env := by rfl) (hpl : (backTo pos (starEach es X.env)).any (·.1) = false := by rfl) : SN X B W (.Call (.Name x p) (e :: es) [] pos) (opnN o k) := by
  obtain ⟨r, h1, h2⟩ := hc
  exact sn_callTy h1 (hK ▸ h2) hg hm hv ha hn hdb he hpl
/-! ### a, b = x, y by plain local names -/
def parG (i j : Nat) (k : F (List D)) : G := fun s => (k s).out fun ds s1 => match ds with
  | [x, y] => if okSl s1 i = true ∧ okSl (s1.set i (.va x)) j = true then .nx ((s1.set i (.va x)).set j (.va y)) else .no
  | _ => .no
def par3G (i j l : Nat) (k : F (List D)) : G := fun s => (k s).out fun ds s1 => match ds with
  | [x, y, z] => if okSl s1 i = true ∧ okSl (s1.set i (.va x)) j = true ∧ okSl ((s1.set i (.va x)).set j (.va y)) l = true then .nx (((s1.set i (.va x)).set j (.va y)).set l (.va z)) else .no
  | _ => .no
theorem ss_par {i j : Nat} {x y : Str} {px py pt : Pos} {kt k2 pt2} (hc : X.calm = true) (hN : X.N.Nodup) (hi : X.N[i]? = some x) (hj : X.N[j]? = some y) (hij : i ≠ j) (hx : X.env.scope.names.lookup x = some .local) (hy : X.env.scope.names.lookup y = some .local) (ha : SA X B W [a, b] k)
    (hw : swappedStores [.Tuple [.Name x px, .Name y py] kt pt] (.Tuple [a, b] k2 pt2) X.env = pure (some [x, y]))
    (hs : swapsWithSole [.Tuple [.Name x px, .Name y py] kt pt] (.Tuple [a, b] k2 pt2) pos.line X.env = pure false := by rfl) : SS X B W (.Assign [.Tuple [.Name x px, .Name y py] kt pt] (.Tuple [a, b] k2 pt2) pos) (parG i j k) := by
  refine PS.imp (ps_par hc hN hi hj hij hx hy ha hw hs) fun E σ H ⟨M, s, r, p⟩ => ⟨M, s, r, PostS.bind p fun ds s1 M1 H1 vs r1 q1 ev1 p1 => ?_⟩
  split at p1
  · split at p1
    · rename_i h
      obtain ⟨v, u, rfl, q1, q2⟩ := RpL.two q1
      exact ⟨v, u, rfl, p1 _ H1 M1 ((r1.put q1 (okSl.io h.1) (okSl.lt h.1)).put q2 (okSl.io h.2) (okSl.lt h.2)) .rfl⟩
    · exact p1.elim
  · exact p1.elim
theorem ss_par3 {i j l : Nat} {x y z : Str} {px py pz pt : Pos} {kt k2 pt2} (hc : X.calm = true) (hN : X.N.Nodup) (hi : X.N[i]? = some x) (hj : X.N[j]? = some y) (hl : X.N[l]? = some z) (hij : i ≠ j) (hil : i ≠ l) (hjl : j ≠ l) (hx : X.env.scope.names.lookup x = some .local) (hy : X.env.scope.names.lookup y = some .local) (hz : X.env.scope.names.lookup z = some .local) (ha : SA X B W [a, b, c] k)
    (hw : swappedStores [.Tuple [.Name x px, .Name y py, .Name z pz] kt pt] (.Tuple [a, b, c] k2 pt2) X.env = pure (some [x, y, z]))
    (hs : swapsWithSole [.Tuple [.Name x px, .Name y py, .Name z pz] kt pt] (.Tuple [a, b, c] k2 pt2) pos.line X.env = pure false := by rfl) : SS X B W (.Assign [.Tuple [.Name x px, .Name y py, .Name z pz] kt pt] (.Tuple [a, b, c] k2 pt2) pos) (par3G i j l k) := by
  refine PS.imp (ps_par3 hc hN hi hj hl hij hil hjl hx hy hz ha hw hs) fun E σ H ⟨M, s, r, p⟩ => ⟨M, s, r, PostS.bind p fun ds s1 M1 H1 vs r1 q1 ev1 p1 => ?_⟩
  split at p1
  · split at p1
    · rename_i h
      cases q1 with
      | cons q1 t =>
        obtain ⟨v, u, rfl, q2, q3⟩ := RpL.two t
        exact ⟨_, v, u, rfl, p1 _ H1 M1 (((r1.put q1 (okSl.io h.1) (okSl.lt h.1)).put q2 (okSl.io h.2.1) (okSl.lt h.2.1)).put q3 (okSl.io h.2.2) (okSl.lt h.2.2)) .rfl⟩
    · exact p1.elim
  · exact p1.elim
/-! ### more to go through -/
theorem si_lst {tg : Expr} (hK : X.K = B.K) (he : SE X B W e f) : SI X B W tg e (iterF f) := si_seq hK he
end
/-! ### what is known of the text -/
section
variable {P : Program} {w : World} {K : PySem.W.Frag} {mg : Str → Option Value} {base : Heap}
/-- the def stands under its name -/
structure FunAt (K : PySem.W.Frag) (mg : Str → Option Value) (x : Str) (st : Stmt) : Prop where
  ex : ∃ (f : Addr) (fd : FuncData), Fun K x x st f fd ∧ mg x = some (.ref f)
theorem Kn.of {x : Str} {st : Stmt} {N ps : List Str} {k n : Nat} {io : Bool} {g : G} (F : FunAt K mg x st) (S : FnScope N ps (defScope st)) (hn : N.length = n)
    (h : ∀ (f : Addr) (cdv : Value) (A : Around) (outer : List Env) (s : Shared) (H : Hp) (E : XK), Room k (cxD P w K mg base N x (defScope st) f cdv A outer s H E).A → (cxD P w K mg base N x (defScope st) f cdv A outer s H E).A.guards = some [] →
      ∀ B : Bs, B.K = K → SSs (cxD P w K mg base N x (defScope st) f cdv A outer s H E) B (fun cls d _ H => E cls d H) (defBody st) g) :
    Kn P w K mg base x x st (k + 1) io ps (bodyF n io g) := by
  subst hn
  obtain ⟨f, fd, F, hm⟩ := F.ex
  exact ⟨f, fd, F, fn_mk F S (h f), hm⟩
theorem Fun.same {x qual : Str} {st : Stmt} {f : Addr} {fd fd' : FuncData} (F : Fun K x qual st f fd) (F' : Fun K x qual st f fd') : fd = fd' := by
  obtain ⟨_, _, _, _, _, _, _, _, _, rfl, h, _⟩ := F.ex
  obtain ⟨_, _, _, _, _, _, _, _, _, rfl, h', _⟩ := F'.ex
  have e := Option.some.inj (h.symm.trans h')
  injection e with _ _ e _
  injection e
/-- a module's constant -/
structure Cn (K : PySem.W.Frag) (mg : Str → Option Value) (x : Str) (d : D) : Prop where
  ex : ∃ (v : V) (u : Value), mg x = some u ∧ RelV v u ∧ ∀ M H, Rp K M H v d
theorem Cn.glb {X : Cx} {B : Bs} {x : Str} {d : D} (c : Cn K mg x d) (h1 : X.mg = mg) (h2 : B.K = K) : Glb X B x d := by
  obtain ⟨v, u, a, b, q⟩ := c.ex
  exact ⟨v, u, h1 ▸ a, b, h2 ▸ q⟩
theorem Cn.int {x : Str} {i : Int} {t : Tok} (h : mg x = some (.int i t)) : Cn K mg x (.int i) := ⟨.int i, _, h, ⟨t, rfl⟩, fun _ _ => .int i⟩
/-- a tuple of texts -/
theorem Cn.strs {x : Str} {a : Addr} {its : Array Value} {n : Nat} {xs : List Str} (h : mg x = some (.ref a)) (hl : K.lookup a = some ⟨.type "tuple", .none, .seq its n, #[]⟩) (hz : its.size ≤ sizeLine) (hx : Vals (xs.map V.str) its.toList) : Cn K mg x (.tup (xs.map D.str)) :=
  ⟨.ref a, _, h, rfl, fun M H => .tupK ⟨_, its, n, hl, rfl, rfl, hz, hx⟩ (by
    clear hx
    induction xs with
    | nil => exact .nil
    | cons x xs ih => exact .cons (.str x) ih)⟩
end
/-- the law's promise, by what it does -/
theorem law_end_of {F : List D → FR} (hF : ∀ ns : List Int, ns.length ≤ 63 → F [.fz (ns.map .int)] = .ret (.bl true) (.l [])) (K : PySem.W.Frag) (H : Hp) (a : Addr) (ns : List Int) (hl : ns.length ≤ 63) (h : Rd H a (.lst (ns.map V.int)) ∨ ∀ H, SqL K H a (ns.map V.int)) :
    spF K false 1 F [.ref a] H (fun v _ => v = .bl true) fun _ _ _ => False := by
  refine ⟨rfl, fun _ => False, [.fz (ns.map .int)], fun b z => z.elim, .cons ?_ .nil, ?_⟩
  · rcases h with h | h
    · exact .fz h (fun z => z) (intsD.back ns)
    · exact .fzK h (intsD.back ns)
  · rw [hF ns hl]
    intro v H' _ _ q
    cases q
    rfl
end Fx

set_option Elab.async false
set_option linter.all false
set_option maxRecDepth 100000
namespace Fx
open PySem L2 PyProof.Rows
/-! ### what the functions do, step by step (for simp) -/
section
variable {s : List Sl} {i n : Nat} {d x y : D} {ds as : List D} {f g h : F D} {k kk : F (List D)} {u v : F Bool} {a : AS} {G1 G2 : G}
theorem ev_bad {α β : Type} {r : R α} {F1 : α → List Sl → R β} : r.bind F1 = match r with | .ok a s => F1 a s | .er x s => .er x s | .no => .no := rfl
theorem ev_name : nameF i s = match s[i]? with | some (.va d) => .ok d s | some (.ow m) => .ok m.d (s.set i (.va m.d)) | _ => .no := rfl
theorem ev_c : cF d s = .ok d s := rfl
theorem ev_op2 {o : D → D → Option D} : op2F o f g s = (f s).bind fun x s1 => (g s1).bind fun y s2 => toR (o x y) s2 := rfl
theorem ev_op1 {o : D → Option D} : op1F o f s = (f s).bind fun x s1 => toR (o x) s1 := rfl
theorem ev_toR1 : toR (some d) s = .ok d s := rfl
theorem ev_toRL1 : toRL (some ds) s = .ok ds s := rfl
theorem ev_nil : nilF s = .ok [] s := rfl
theorem ev_cons : consF f k s = (f s).bind fun x s1 => (k s1).bind fun xs s2 => .ok (x :: xs) s2 := rfl
theorem ev_opn {o : List D → Option D} : opnF o k s = (k s).bind fun xs s1 => toR (o xs) s1 := rfl
theorem ev_opnN {o : List D → Option (List D)} : opnN o k s = (k s).bind fun xs s1 => toRL (o xs) s1 := rfl
theorem ev_tup : tupF k s = (k s).bind fun xs s1 => if xs.length ≤ sizeLine then .ok (.tup xs) s1 else .no := rfl
theorem ev_lst : lstF k s = (k s).bind fun xs s1 => if xs.length ≤ sizeLine then .ok (.lst xs) s1 else .no := rfl
theorem ev_lstN : lstN k s = (k s).bind fun xs s1 => if xs.length ≤ sizeLine then .ok xs s1 else .no := rfl
theorem ev_new : lstF' k s = (k s).bind fun ds s1 => .ok (.lst ds) s1 := rfl
theorem ev_tst : tstF f s = (f s).bind fun x s1 => match x with | .bl b => .ok b s1 | _ => .no := rfl
theorem ev_notT : notT u s = (u s).bind fun c s1 => .ok (!c) s1 := rfl
theorem ev_andT : andT u v s = (u s).bind fun c s1 => if c = true then v s1 else .ok false s1 := rfl
theorem ev_orT : orT u v s = (u s).bind fun c s1 => if c = true then .ok true s1 else v s1 := rfl
theorem ev_notF : notF f s = (f s).bind fun x s1 => match x with | .bl b => .ok (.bl (!b)) s1 | _ => .no := rfl
theorem ev_andF : andF f g s = (f s).bind fun x s1 => match x with | .bl true => g s1 | .bl false => .ok (.bl false) s1 | _ => .no := rfl
theorem ev_orF : orF f g s = (f s).bind fun x s1 => match x with | .bl false => g s1 | .bl true => .ok (.bl true) s1 | _ => .no := rfl
theorem ev_ifF : ifF u f g s = (u s).bind fun c s1 => if c = true then f s1 else g s1 := rfl
theorem ev_yes : yesT s = .ok true s := rfl
theorem ev_iter : iterF f s = (f s).bind fun d s1 => match d with | .lst ds => .ok ds s1 | .tup ds => .ok ds s1 | .fz ds => .ok ds s1 | _ => .no := rfl
theorem ev_rng1 : rng1F f s = (f s).bind fun x s1 => match x with | .int n => if sm62 n = true then .ok (rngD 0 n) s1 else .no | _ => .no := rfl
theorem ev_rng2 : rng2F f g s = (f s).bind fun x s1 => (g s1).bind fun y s2 => match x, y with | .int a, .int b => if sm62 a = true ∧ sm62 b = true then .ok (rngD a b) s2 else .no | _, _ => .no := rfl
theorem ev_rngW : rngWF f g s = (f s).bind fun x s1 => (g s1).bind fun y s2 => match x, y with | .int a, .int b => .ok (rngD a b) s2 | _, _ => .no := rfl
theorem ev_noP : noPartF s = .ok none s := rfl
theorem ev_sl {lo hi : F (Option Int)} : slF f lo hi s = (f s).bind fun d s1 => (lo s1).bind fun l s2 => (hi s2).bind fun h s3 => toR (slD d l h) s3 := rfl
theorem ev_part : partF f s = (f s).bind fun d s1 => match d with | .int i => .ok (some i) s1 | _ => .no := rfl
-- statements
theorem ev_next : nextG s = .nx s := rfl
theorem ev_noG : noG s = .no := rfl
theorem ev_seq : seqG G1 G2 s = match G1 s with | .nx s1 => G2 s1 | .rt d s1 => .rt d s1 | .rn d s1 => .rn d s1 | .bk s1 => .bk s1 | .ct s1 => .ct s1 | .er x s1 => .er x s1 | .no => .no := rfl
theorem ev_drop : dropG f s = (f s).out fun _ s1 => .nx s1 := rfl
theorem ev_ret : retG f s = (f s).out fun d s1 => .rt d s1 := rfl
theorem ev_retN : retNG k s = (k s).out fun d s1 => .rn d s1 := rfl
theorem ev_if : ifG u G1 G2 s = (u s).out fun b s1 => if b = true then G1 s1 else G2 s1 := rfl
theorem ev_asg : asgG f a s = (f s).out fun d s1 => match a d s1 with | some s2 => .nx s2 | none => .no := rfl
theorem ev_setA : setA i d s = if okSl s i = true then some (s.set i (.va d)) else none := rfl
theorem ev_nilA : nilA [] s = some s := rfl
theorem ev_consA {b : ASs} : consA a b (d :: ds) s = (a d s).bind fun s1 => b ds s1 := rfl
theorem ev_seqT {b : ASs} : seqA n b (.tup ds) s = if ds.length = n then b ds s else none := rfl
theorem ev_seqL {b : ASs} : seqA n b (.lst ds) s = if ds.length = n then b ds s else none := rfl
theorem ev_setN : setNG i k s = (k s).out fun ds s1 => if okSl s1 i = true then .nx (s1.set i (.ow (.l ds))) else .no := rfl
def ioSl : Sl → Bool
  | .io _ => true
  | _ => false
def owSl : Sl → Bool
  | .io _ => true
  | .ow _ => true
  | _ => false
theorem ev_ok : okSl s i = match s[i]? with | some x => !ioSl x | none => false := by
  unfold okSl
  cases s[i]? with
  | none => rfl
  | some x => cases x <;> rfl
theorem ev_ioV : ioSl (.va d) = false := rfl
theorem ev_ioU : ioSl .un = false := rfl
theorem ev_ioW {m : MO} : ioSl (.ow m) = false := rfl
theorem ev_owV : owSl (.va d) = false := rfl
theorem ev_owU : owSl .un = false := rfl
/-- a slot that holds a value, or nothing -/
def Pl (x : Sl) : Prop := ioSl x = false ∧ owSl x = false
theorem Pl.va {d : D} : Pl (.va d) := ⟨rfl, rfl⟩
theorem Pl.un : Pl .un := ⟨rfl, rfl⟩
theorem ev_own : ownAt s i = match s[i]? with | some (.va (.lst ds)) => some ds | some (.ow (.l ds)) => some ds | some (.io (.l ds)) => some ds | _ => none := rfl
theorem ev_put : ownPut s i ds = match s[i]? with | some (.ow (.l _)) => some (s.set i (.ow (.l ds))) | some (.io (.l _)) => some (s.set i (.io (.l ds))) | _ => none := rfl
theorem ev_ixOwn : ixOwnF i g s = match ownAt s i with | none => .no | some _ => (g s).bind fun y s1 => match y, ownAt s1 i with | .int j, some ds => toR (atD ds j) s1 | _, _ => .no := rfl
theorem ev_lenOwn : lenOwnF i s = match ownAt s i with | some ds => .ok (.int ds.length) s | none => .no := rfl
theorem ev_setIx : setIxG i g f s = (f s).out fun y s1 => match ownAt s1 i with
  | none => .no
  | some _ => (g s1).out fun j s2 => match j, ownAt s2 i with
    | .int j, some ds => match ixN ds.length j with
      | some n => match ownPut s2 i (ds.set n y) with
        | some s3 => .nx s3
        | none => .no
      | none => .no
    | _, _ => .no := rfl
theorem ev_for : forG k a G1 s = (k s).out fun ds s1 => forL a G1 ds s1 := rfl
theorem ev_comp {vs : List Nat} : compN k vs a u f s = (k s).bind fun ds s1 =>
  if ds.length < sizeLine ∧ vs.all (okC s1) = true then match compL vs a u f ds s1 with
    | .ok ys s2 => .ok ys (restS s1 s2 vs)
    | _ => .no
  else .no := rfl
theorem ev_compL0 {vs : List Nat} : compL vs a u f [] s = .ok [] s := rfl
theorem ev_compL1 {vs : List Nat} : compL vs a u f (d :: ds) s = match a d (wipeS s vs) with
    | none => .no
    | some s1 => match u s1 with
      | .ok true s2 => match f s2 with
        | .ok y s3 => match compL vs a u f ds s3 with
          | .ok ys s4 => .ok (y :: ys) s4
          | _ => .no
        | _ => .no
      | .ok false s2 => compL vs a u f ds s2
      | _ => .no := rfl
theorem ev_okC : okC s i = match s[i]? with | some x => !owSl x | none => true := by
  unfold okC
  cases s[i]? with
  | none => rfl
  | some x => cases x <;> rfl
theorem ev_wipe1 {v : Nat} {vs : List Nat} : wipeS s (v :: vs) = (wipeS s vs).set v .un := rfl
theorem ev_wipe0 : wipeS s [] = s := rfl
theorem ev_rest1 {s3 : List Sl} {v : Nat} {vs : List Nat} : restS s s3 (v :: vs) = (restS s s3 vs).set v (s.getD v .un) := rfl
theorem ev_rest0 {s3 : List Sl} : restS s s3 [] = s3 := rfl
theorem ev_call {Fn : List D → FR} {gD : List D → List D → List D} : callF Fn n gD k kk s = (k s).bind fun ds s1 => (kk s1).bind fun es s2 => if (gD ds es).length = n then ofFR (Fn (gD ds es)) (fun _ => s2) else .no := rfl
theorem ev_callN {Fn : List D → FR} {gD : List D → List D → List D} : callN Fn n gD k kk s = (k s).bind fun ds s1 => (kk s1).bind fun es s2 => if (gD ds es).length = n then ofFRN (Fn (gD ds es)) (fun _ => s2) else .no := rfl
theorem ev_ofr {ios : MO} {w : MO → List Sl} : ofFR (.ret d ios) w = .ok d (w ios) := rfl
theorem ev_ofn {ios : MO} {w : MO → List Sl} : ofFR (.retn ds ios) w = .ok (.lst ds) (w ios) := rfl
theorem ev_ofnN {ios : MO} {w : MO → List Sl} : ofFRN (.retn ds ios) w = .ok ds (w ios) := rfl
theorem ev_mut : mutAt s i = match s[i]? with | some (.ow _) => true | some (.io _) => true | _ => false := rfl
theorem ev_mdl : (MO.l ds).d = .lst ds := rfl
theorem ev_mdi {nm : Str} {fs : List (Str × D)} : (MO.i nm fs).d = .ins nm fs := rfl
theorem ev_io {Fn : List D → FR} : callIoF Fn n i k s = if mutAt s i = true then (k s).bind fun ds s1 => if ds.length + 1 = n then match s1[i]? with
    | some (.ow as) => ofFR (Fn (as.d :: ds)) fun ios => s1.set i (.ow ios)
    | some (.io as) => ofFR (Fn (as.d :: ds)) fun ios => s1.set i (.io ios)
    | _ => .no
    else .no
  else .no := rfl
-- values
theorem ev_addI {i j : Int} : addD (.int i) (.int j) = some (.int (i + j)) := rfl
theorem ev_subI {i j : Int} : subD (.int i) (.int j) = some (.int (i - j)) := rfl
theorem ev_mulS {i j : Int} (h : CMul i j) : mulD (.int i) (.int j) = some (.int (i * j)) := if_pos (.inl h)
theorem ev_modI {i j : Int} (h : 0 < j) : modD (.int i) (.int j) = some (.int (i % j)) := if_pos h
theorem ev_fdivI {i j : Int} (h : 0 < j) (h2 : j.natAbs.log2 < 9000) : fdivD (.int i) (.int j) = some (.int (i / j)) := if_pos ⟨h, h2⟩
theorem ev_powI {i j : Int} (h : 0 ≤ j ∧ j ≤ 1000000 ∧ i.natAbs < 2 ^ 64) : powD (.int i) (.int j) = some (.int (i ^ j.toNat)) := if_pos h
theorem ev_negI {i : Int} : negD (.int i) = some (.int (-i)) := rfl
theorem ev_cmpI {p : Int → Int → Bool} {i j : Int} : cmpD p (.int i) (.int j) = some (.bl (p i j)) := rfl
theorem ev_eqI {i j : Int} : eqD (.int i) (.int j) = some (.bl (decide (i = j))) := rfl
theorem ev_neI {i j : Int} : neD (.int i) (.int j) = some (.bl (!decide (i = j))) := rfl
theorem ev_eqS {i j : Str} : eqD (.str i) (.str j) = some (.bl (decide (i = j))) := rfl
theorem ev_neS {i j : Str} : neD (.str i) (.str j) = some (.bl (!decide (i = j))) := rfl
theorem ev_intI {i : Int} : intD [.int i] = some (.int i) := rfl
theorem ev_intB {b : Bool} : intD [.bl b] = some (.int (if b then 1 else 0)) := rfl
theorem ev_absI {i : Int} : absD [.int i] = some (.int (if i < 0 then -i else i)) := rfl
theorem ev_lenL : lenD [.lst ds] = some (.int ds.length) := rfl
theorem ev_lenT : lenD [.tup ds] = some (.int ds.length) := rfl
theorem ev_ixL {j : Int} : ixD (.lst ds) (.int j) = atD ds j := rfl
theorem ev_ixT {j : Int} : ixD (.tup ds) (.int j) = atD ds j := rfl
theorem ev_at0 : atD (d :: ds) 0 = some d := by
  unfold atD ixN
  rw [if_pos (Int.le_refl 0), if_pos (by rw [List.length_cons]; omega)]
  rfl
theorem ev_at1 {e : D} : atD (d :: e :: ds) 1 = some e := by
  unfold atD ixN
  rw [if_pos (by omega), if_pos (by rw [List.length_cons, List.length_cons]; omega)]
  rfl
theorem ev_at2 {e c : D} : atD (d :: e :: c :: ds) 2 = some c := by
  unfold atD ixN
  rw [if_pos (by omega), if_pos (by rw [List.length_cons, List.length_cons, List.length_cons]; omega)]
  rfl
theorem ev_nat {i : Nat} (h : ds[i]? = some d) : atD ds (i : Int) = some d := by
  have hi : i < ds.length := (List.getElem?_eq_some_iff.mp h).1
  unfold atD ixN
  rw [if_pos (by omega), if_pos (by omega)]
  exact h
theorem ev_int {j : Int} (h0 : 0 ≤ j) (h : ds[j.toNat]? = some d) : atD ds j = some d := by
  have := ev_nat h
  rwa [Int.toNat_of_nonneg h0] at this
theorem ev_ixN {n : Nat} {j : Int} (h0 : 0 ≤ j) (h : j < n) : ixN n j = some j.toNat := by
  unfold ixN
  rw [if_pos h0, if_pos h]
theorem ev_i30 : ixN 3 0 = some 0 := rfl
theorem ev_i31 : ixN 3 1 = some 1 := rfl
theorem ev_i32 : ixN 3 2 = some 2 := rfl
theorem ev_pk1 {a : D} : pickG 1 0 [] [0] [a] [] = [a] := rfl
theorem ev_pk2 {a b : D} : pickG 2 0 [] [0, 1] [a, b] [] = [a, b] := rfl
theorem ev_pk3 {a b c : D} : pickG 3 0 [] [0, 1, 2] [a, b, c] [] = [a, b, c] := rfl
theorem ev_pk4 {a b c e : D} : pickG 4 0 [] [0, 1, 2, 3] [a, b, c, e] [] = [a, b, c, e] := rfl
theorem ev_pkw1 {a : D} : pickG 0 1 [] [0] [] [a] = [a] := rfl
theorem ev_pkw2 {a b : D} : pickG 0 2 [] [1, 0] [] [a, b] = [b, a] := rfl
theorem ev_pkv2 {a b : D} : pickG 0 2 [] [0, 1] [] [a, b] = [a, b] := rfl
theorem ev_isI {i : Int} : isD (.int i) .non = some (.bl false) := rfl
theorem ev_isN : isD .non .non = some (.bl true) := rfl
theorem ev_isB {b c : Bool} : isD (.bl b) (.bl c) = some (.bl (decide (b = c))) := rfl
theorem ev_inI {i : Int} : isNotD (.int i) .non = some (.bl true) := rfl
theorem ev_inN : isNotD .non .non = some (.bl false) := rfl
theorem ev_inB {b c : Bool} : isNotD (.bl b) (.bl c) = some (.bl (!decide (b = c))) := rfl
theorem ev_listT : listN [.tup ds] = some ds := rfl
theorem ev_listL : listN [.lst ds] = some ds := rfl
theorem ev_tupT : tupleD [.tup ds] = some (.tup ds) := rfl
theorem ev_tupL : tupleD [.lst ds] = some (.tup ds) := rfl
/-! ### loops -/
theorem forL_run {I : Nat → List Sl → Prop} : ∀ (ds : List D) (m : Nat) (s : List Sl), I m s → (∀ (j : Nat) (d : D) (s : List Sl), ds[j]? = some d → I (m + j) s → ∃ s1 s2, a d s = some s1 ∧ (G1 s1 = .nx s2 ∨ G1 s1 = .ct s2) ∧ I (m + j + 1) s2) → ∃ s', forL a G1 ds s = .nx s' ∧ I (m + ds.length) s'
  | [], m, s, h0, _ => ⟨s, rfl, h0⟩
  | d :: ds, m, s, h0, h => by
    obtain ⟨s1, s2, e1, e2, h2⟩ := h 0 d s rfl h0
    obtain ⟨s', e3, h3⟩ := forL_run (I := I) ds (m + 1) s2 h2 fun j d s e i => by
      have := h (j + 1) d s e (by rw [← Nat.add_assoc, Nat.add_right_comm]; exact i)
      rwa [← Nat.add_assoc, Nat.add_right_comm m j 1] at this
    refine ⟨s', ?_, by rw [List.length_cons, Nat.add_comm ds.length 1, ← Nat.add_assoc]; exact h3⟩
    unfold forL
    rw [e1]
    rcases e2 with e2 | e2
    · dsimp only
      rw [e2]
      exact e3
    · dsimp only
      rw [e2]
      exact e3
/-- a comprehension without a test, each turn with its own outcome -/
theorem compL_run {vs : List Nat} {I : Nat → List Sl → Prop} {Y : Nat → D → Prop} : ∀ (ds : List D) (m : Nat) (s : List Sl), I m s → (∀ (j : Nat) (d : D) (s : List Sl), ds[j]? = some d → I (m + j) s → ∃ s1 s2 s3 y, a d (wipeS s vs) = some s1 ∧ u s1 = .ok true s2 ∧ f s2 = .ok y s3 ∧ Y (m + j) y ∧ I (m + j + 1) s3) →
    ∃ ys s', compL vs a u f ds s = .ok ys s' ∧ ys.length = ds.length ∧ (∀ (j : Nat) (y : D), ys[j]? = some y → Y (m + j) y) ∧ I (m + ds.length) s'
  | [], m, s, h0, _ => ⟨[], s, rfl, rfl, fun j y e => by simp at e, h0⟩
  | d :: ds, m, s, h0, h => by
    obtain ⟨s1, s2, s3, y, e1, e2, e3, hy, h2⟩ := h 0 d s rfl h0
    obtain ⟨ys, s', e4, hl, hY, h3⟩ := compL_run (I := I) (Y := Y) ds (m + 1) s3 h2 fun j d s e i => by
      have := h (j + 1) d s e (by rw [← Nat.add_assoc, Nat.add_right_comm]; exact i)
      rwa [← Nat.add_assoc, Nat.add_right_comm m j 1] at this
    refine ⟨y :: ys, s', ?_, by rw [List.length_cons, List.length_cons, hl], fun j z e => ?_, by rw [List.length_cons, Nat.add_comm ds.length 1, ← Nat.add_assoc]; exact h3⟩
    · rw [ev_compL1, e1]
      dsimp only
      rw [e2]
      dsimp only
      rw [e3]
      dsimp only
      rw [e4]
    · cases j with
      | zero => cases e; exact hy
      | succ j =>
        have := hY j z e
        rwa [Nat.add_right_comm, Nat.add_assoc] at this
theorem rngD_length {a b : Int} : (rngD a b).length = (b - a).toNat := by
  unfold rngD
  rw [List.length_map, List.length_range]
theorem rngD_get {a b : Int} {j : Nat} {d : D} (h : (rngD a b)[j]? = some d) : d = .int (a + j) := by
  unfold rngD at h
  rw [List.getElem?_map] at h
  cases e : (List.range (b - a).toNat)[j]? with
  | none => rw [e] at h; cases h
  | some i =>
    rw [e] at h
    cases h
    obtain ⟨hi, hj⟩ := List.getElem?_eq_some_iff.mp e
    rw [List.getElem_range] at hj
    rw [hj]
end
end Fx

set_option Elab.async false
set_option linter.all false
set_option maxRecDepth 100000
namespace Fx
open PySem L2 PyProof.Rows
/-! ### equality of lists of ints -/
theorem toPyL_ints : ∀ ns : List Int, toPyL (ns.map D.int) = some (ns.map PyData.int)
  | [] => rfl
  | n :: ns => by
    rw [List.map_cons, List.map_cons]
    unfold toPyL
    rw [toPyL_ints ns]
    rfl
theorem canLay_ints : ∀ ns : List Int, PyData.canLayAll0 (ns.map PyData.int) = true
  | [] => by simp only [List.map_nil, PyData.canLayAll0]
  | n :: ns => by
    rw [List.map_cons]
    simp only [PyData.canLayAll0, PyData.canLay0, canLay_ints ns, Bool.true_and]
theorem depth_ints : ∀ ns : List Int, PyData.depthAll (ns.map PyData.int) = 0
  | [] => by simp only [List.map_nil, PyData.depthAll]
  | n :: ns => by
    rw [List.map_cons]
    simp only [PyData.depthAll, PyData.depth, depth_ints ns, Nat.max_self]
theorem eqv_ints : ∀ ns ms : List Int, PyData.eqvAll (ns.map PyData.int) (ms.map PyData.int) = decide (ns = ms)
  | [], [] => by simp [PyData.eqvAll]
  | [], m :: ms => by simp [PyData.eqvAll]
  | n :: ns, [] => by simp [PyData.eqvAll]
  | n :: ns, m :: ms => by
    rw [List.map_cons, List.map_cons]
    unfold PyData.eqvAll PyData.eqv
    rw [eqv_ints ns ms]
    by_cases h1 : n = m
    · by_cases h2 : ns = ms
      · simp [h1, h2]
      · simp [h1, h2]
    · simp [h1]
theorem shaped_ints (ns : List Int) : SeqAt.shaped (.list (ns.map PyData.int)) = true := by
  unfold SeqAt.shaped PyData.canLay0
  rw [canLay_ints, Bool.true_and]
  refine decide_eq_true ?_
  unfold PyData.depth
  rw [depth_ints]
  decide
theorem eq_ints (ns ms : List Int) : eqD (.lst (ns.map D.int)) (.lst (ms.map D.int)) = some (.bl (decide (ns = ms))) := by
  show eqG _ _ = _
  unfold eqG toPy
  rw [toPyL_ints, toPyL_ints]
  show (if SeqAt.shaped _ = true ∧ SeqAt.shaped _ = true then _ else _) = _
  rw [if_pos ⟨shaped_ints ns, shaped_ints ms⟩]
  unfold PyData.eqv
  rw [eqv_ints]
theorem ne_ints (ns ms : List Int) : neD (.lst (ns.map D.int)) (.lst (ms.map D.int)) = some (.bl (!decide (ns = ms))) := by
  show neG _ _ = _
  unfold neG toPy
  rw [toPyL_ints, toPyL_ints]
  show (if SeqAt.shaped _ = true ∧ SeqAt.shaped _ = true then _ else _) = _
  rw [if_pos ⟨shaped_ints ns, shaped_ints ms⟩]
  unfold PyData.eqv
  rw [eqv_ints]
/-! ### what repr can show -/
mutual
def shOk : D → Bool
  | .non => true
  | .bl _ => true
  | .int i => decide (i.natAbs.log2 < 1920)
  | .tup xs => shOkL xs
  | .lst xs => shOkL xs
  | _ => false
def shOkL : List D → Bool
  | [] => true
  | x :: xs => shOk x && shOkL xs
end
mutual
def shSz : D → Nat
  | .tup xs => shSzL xs + 3
  | .lst xs => shSzL xs + 3
  | _ => 1921
def shSzL : List D → Nat
  | [] => 0
  | x :: xs => shSz x + 2 + shSzL xs
end
mutual
def shDp : D → Nat
  | .tup xs => shDpL xs + 1
  | .lst xs => shDpL xs + 1
  | _ => 0
def shDpL : List D → Nat
  | [] => 0
  | x :: xs => max (shDp x) (shDpL xs)
end
mutual
theorem sh_py : ∀ d : D, shOk d = true → ∃ p, toPy d = some p ∧ p.showable = true ∧ p.hasDict = false ∧ p.depth = shDp d ∧ p.shown.length ≤ shSz d
  | .non, _ => ⟨.none, rfl, by simp only [PyData.showable], by simp only [PyData.hasDict], by simp only [PyData.depth, shDp], by simp only [PyData.shown, shSz]; decide⟩
  | .bl b, _ => ⟨.bool b, rfl, by simp only [PyData.showable], by simp only [PyData.hasDict], by simp only [PyData.depth, shDp], by
    simp only [PyData.shown, shSz]
    cases b <;> decide⟩
  | .int i, h => ⟨.int i, rfl, by
    simp only [PyData.showable]
    exact h, by simp only [PyData.hasDict], by simp only [PyData.depth, shDp], by
    simp only [PyData.shown, shSz]
    exact int_text_len_1921 (of_decide_eq_true h)⟩
  | .tup xs, h => by
    unfold shOk at h
    obtain ⟨ps, e, h1, h2, h3, h4, h5⟩ := sh_pyL xs h
    refine ⟨.tuple ps, by unfold toPy; rw [e]; rfl, by simp only [PyData.showable]; exact h1, by simp only [PyData.hasDict]; exact h2, by simp only [PyData.depth, shDp]; rw [h3], ?_⟩
    simp only [PyData.shown, shSz]
    refine Nat.le_trans (PySem.tupleText_len_le _) ?_
    omega
  | .lst xs, h => by
    unfold shOk at h
    obtain ⟨ps, e, h1, h2, h3, h4, h5⟩ := sh_pyL xs h
    refine ⟨.list ps, by unfold toPy; rw [e]; rfl, by simp only [PyData.showable]; exact h1, by simp only [PyData.hasDict]; exact h2, by simp only [PyData.depth, shDp]; rw [h3], ?_⟩
    simp only [PyData.shown, shSz]
    refine Nat.le_trans (PySem.listText_len_le _) ?_
    omega
  | .str _, h => by simp [shOk] at h
  | .ref _, h => by simp [shOk] at h
  | .ty _, h => by simp [shOk] at h
  | .fz _, h => by simp [shOk] at h
  | .ins _ _, h => by simp [shOk] at h
theorem sh_pyL : ∀ ds : List D, shOkL ds = true → ∃ ps, toPyL ds = some ps ∧ PyData.showableAll ps = true ∧ PyData.hasDictAll ps = false ∧ PyData.depthAll ps = shDpL ds ∧ ps.length = ds.length ∧ ((PyData.shownAll ps).map (·.length)).sum + 2 * (PyData.shownAll ps).length ≤ shSzL ds
  | [], _ => ⟨[], rfl, by simp only [PyData.showableAll], by simp only [PyData.hasDictAll], by simp only [PyData.depthAll, shDpL], rfl, by simp only [PyData.shownAll, shSzL, List.map_nil, List.sum_nil, List.length_nil]; omega⟩
  | d :: ds, h => by
    unfold shOkL at h
    rw [Bool.and_eq_true] at h
    obtain ⟨p, e, a1, a2, a3, a4⟩ := sh_py d h.1
    obtain ⟨ps, e2, b1, b2, b3, b4, b5⟩ := sh_pyL ds h.2
    refine ⟨p :: ps, by unfold toPyL; rw [e, e2], by simp only [PyData.showableAll, a1, b1, Bool.and_self], by simp only [PyData.hasDictAll, a2, b2, Bool.or_self], by simp only [PyData.depthAll, shDpL, a3, b3], by rw [List.length_cons, List.length_cons, b4], ?_⟩
    simp only [PyData.shownAll, shSzL, List.map_cons, List.sum_cons, List.length_cons]
    omega
end
theorem repr_of {d : D} (h : shOk d = true) (h2 : shDp d < 60) (h3 : shSz d ≤ 16777216) : ∃ z, reprD [d] = some (.str z) := by
  obtain ⟨p, e, a1, a2, a3, a4⟩ := sh_py d h
  refine ⟨p.shown, ?_⟩
  unfold reprD
  dsimp only
  rw [e]
  dsimp only
  rw [if_pos ⟨a1, a2, by rw [a3]; exact h2, Nat.le_trans a4 (by rw [sizeLine_eq]; exact h3)⟩]
end Fx

set_option Elab.async false
set_option linter.all false
set_option maxRecDepth 100000
namespace Fx
open PySem L2 PyProof.Rows
/-! ### classes of one's own -/
theorem ClsAt.uniq {K : PySem.W.Frag} {n : Str} {C C' : Addr} (h : ClsAt K n C) (h' : ClsAt K n C') : C = C' := by
  unfold ClsAt at h h'
  rw [h] at h'
  cases h'
  rfl
/-- the attribute f of the class of this name is none of the class's own -/
structure AttrOk (K : PySem.W.Frag) (n f : Str) : Prop where
  ex : ∃ C, ClsAt K n C ∧ Cls K C ∧ NoAttr K C f
theorem lookup_rp {K : PySem.W.Frag} {M : MS} {H : Hp} {f : Str} : ∀ {vs : List (Str × V)} {gs : List (Str × D)} {d : D}, vs.map (·.1) = gs.map (·.1) → RpL K M H (vs.map (·.2)) (gs.map (·.2)) → gs.lookup f = some d → ∃ v, vs.lookup f = some v ∧ Rp K M H v d
  | [], [], _, _, _, e => by cases e
  | [], _ :: _, _, h, _, _ => by cases h
  | _ :: _, [], _, h, _, _ => by cases h
  | (a, v) :: vs, (b, x) :: gs, d, h, q, e => by
    rw [List.map_cons, List.map_cons] at h q
    obtain ⟨h1, h2⟩ := List.cons.inj h
    cases q with
    | cons q qs =>
      have h1 : a = b := h1
      subst h1
      rw [List.lookup_cons] at e ⊢
      cases hf : f == a with
      | true =>
        rw [hf] at e
        cases e
        exact ⟨v, rfl, q⟩
      | false =>
        rw [hf] at e
        exact lookup_rp h2 qs e
def putD (f : Str) (d : D) : List (Str × D) → List (Str × D)
  | [] => [(f, d)]
  | (g, x) :: r => if g = f then (g, d) :: r else (g, x) :: putD f d r
theorem putF_rp {K : PySem.W.Frag} {M : MS} {H : Hp} {f : Str} {y : V} {d : D} (r : Rp K M H y d) : ∀ {vs : List (Str × V)} {gs : List (Str × D)}, vs.map (·.1) = gs.map (·.1) → RpL K M H (vs.map (·.2)) (gs.map (·.2)) →
    ∃ gs' : List (Str × D), (putF f y vs).map (·.1) = gs'.map (·.1) ∧ RpL K M H ((putF f y vs).map (·.2)) (gs'.map (·.2)) ∧ gs' = putD f d gs
  | [], [], _, _ => ⟨[(f, d)], rfl, .cons r .nil, rfl⟩
  | [], _ :: _, h, _ => by cases h
  | _ :: _, [], h, _ => by cases h
  | (a, v) :: vs, (b, x) :: gs, h, q => by
    rw [List.map_cons, List.map_cons] at h q
    obtain ⟨h1, h2⟩ := List.cons.inj h
    cases q with
    | cons q qs =>
      have h1 : a = b := h1
      subst h1
      unfold putF
      by_cases hf : a = f
      · refine ⟨(a, d) :: gs, ?_, ?_, ?_⟩
        · rw [if_pos hf, List.map_cons, List.map_cons, h2]
        · rw [if_pos hf]
          exact .cons r qs
        · unfold putD
          rw [if_pos hf]
      · obtain ⟨gs', e1, e2, e3⟩ := putF_rp (f := f) r h2 qs
        refine ⟨(a, x) :: gs', ?_, ?_, ?_⟩
        · rw [if_neg hf, List.map_cons, List.map_cons, e1]
        · rw [if_neg hf]
          exact .cons q e2
        · unfold putD
          rw [if_neg hf, e3]
section
variable {X : Cx} {B : Bs} {W : WX} {e o : Expr} {es : List Expr} {kws : List Keyword} {g f : F D} {k kk : F (List D)} {pos : Pos}
/-- e.f, e an instance of one of the classes ns -/
def fldF (ns : List Str) (f : Str) (g : F D) : F D := fun s => (g s).bind fun d s1 => match d with
  | .ins n fs => if n ∈ ns then toR (fs.lookup f) s1 else .no
  | _ => .no
theorem se_fld {ns : List Str} {f : Str} (hK : X.K = B.K) (h : ∀ n ∈ ns, AttrOk B.K n f) (he : SE X B W e g) (hb : attributeBase e f X.env (eval e X.env) = eval e X.env := by rfl) : SE X B W (.Attribute e f pos) (fldF ns f g) := by
  refine PE.imp (pe_fld he hb) fun σ H Q ⟨M, s, r, p⟩ => ⟨M, s, r, Post.bind p fun d s1 M1 H1 v r1 q1 ev1 p1 => ?_⟩
  split at p1
  · rename_i n fs
    split at p1
    · rename_i hn
      obtain ⟨C, hC, c, na⟩ := (h n hn).ex
      unfold toR at p1
      split at p1
      · rename_i d hd
        cases q1 with
        | ins h1 hm hc q l =>
          cases hC.uniq hc
          obtain ⟨w, hw, qw⟩ := lookup_rp q l hd
          rw [hK]
          exact ⟨_, _, _, _, w, rfl, h1, c, na, hw, p1.out r1 qw⟩
      · exact p1.elim
    · exact p1.elim
  · exact p1.elim
/-- self.f, self an instance that may still be changed -/
def insAt (s : List Sl) (i : Nat) : Option (Str × List (Str × D)) := match s[i]? with
  | some (.va (.ins n fs)) => some (n, fs)
  | some (.ow (.i n fs)) => some (n, fs)
  | some (.io (.i n fs)) => some (n, fs)
  | _ => none
theorem insAt.run {M : MS} {σ : L2.St} {H : Hp} {s : List Sl} {i : Nat} {n : Str} {fs : List (Str × D)} (r : SR B M σ H s) (h : insAt s i = some (n, fs)) :
    ∃ a C dx vs, σ[i]? = some (some (.ref a)) ∧ H a = some (.ins C dx vs) ∧ ClsAt B.K n C ∧ vs.map (·.1) = fs.map (·.1) ∧ RpL B.K M H (vs.map (·.2)) (fs.map (·.2)) := by
  unfold insAt at h
  split at h
  · rename_i n' fs' e
    cases h
    obtain ⟨v, e1, q⟩ := r.va i _ e
    cases q with
    | ins h1 hm hc q l => exact ⟨_, _, _, _, e1, h1, hc, q, l⟩
  · rename_i n' fs' e
    cases h
    obtain ⟨a, xs, e1, q, m, n0, l⟩ := r.ow i _ e
    cases l with
    | i hc q2 l => exact ⟨_, _, _, _, e1, q, hc, q2, l⟩
  · rename_i n' fs' e
    cases h
    obtain ⟨z, a, xs, p, e1, q, m, l⟩ := r.io i _ e
    cases l with
    | i hc q2 l => exact ⟨_, _, _, _, z ▸ e1, q, hc, q2, l⟩
  · cases h
def fldOwnF (i : Nat) (ns : List Str) (f : Str) : F D := fun s => match insAt s i with
  | some (n, fs) => if n ∈ ns then toR (fs.lookup f) s else .no
  | none => .no
theorem se_fldOwn (i : Nat) {x : Str} {p' : Pos} {ns : List Str} {f : Str} (hK : X.K = B.K) (h : ∀ n ∈ ns, AttrOk B.K n f) (hN : X.N[i]? = some x := by rfl) (hv : Vis X.env.scope x := by first | exact Or.inl rfl | exact Or.inr (Or.inl rfl) | exact Or.inr (Or.inr rfl))
    (hd : (x == ("__debug__" : Str)) = false := by decide) (hcd : (x == ("__classdict__" : Str)) = false := by decide) (hb : attributeBase (.Name x p') f X.env (eval (.Name x p') X.env) = eval (.Name x p') X.env := by rfl) :
    SE X B W (.Attribute (.Name x p') f pos) (fldOwnF i ns f) := by
  refine PE.imp (pe_fld (pe_var hN hv hd hcd) hb) fun σ H Q ⟨M, s, r, p⟩ => ?_
  unfold fldOwnF at p
  split at p
  · rename_i n fs e
    split at p
    · rename_i hn
      obtain ⟨C, hC, c, na⟩ := (h n hn).ex
      obtain ⟨a, C', dx, vs, e1, h1, hc, q, l⟩ := insAt.run r e
      cases hC.uniq hc
      unfold toR at p
      split at p
      · rename_i d hd
        obtain ⟨w, hw, qw⟩ := lookup_rp q l hd
        rw [hK]
        exact ⟨_, e1, a, _, dx, vs, w, rfl, h1, c, na, hw, p.out r qw⟩
      · exact p.elim
    · exact p.elim
  · exact p.elim
/-- self.f = e -/
def fldG (i : Nat) (ns : List Str) (f : Str) (g : F D) : G := fun s => (g s).out fun d s1 => match s1[i]? with
  | some (.ow (.i n fs)) => if n ∈ ns ∧ fs.length < 1000 then .nx (s1.set i (.ow (.i n (putD f d fs)))) else .no
  | some (.io (.i n fs)) => if n ∈ ns ∧ fs.length < 1000 then .nx (s1.set i (.io (.i n (putD f d fs)))) else .no
  | _ => .no
theorem ss_fld (i : Nat) {x : Str} {p' pos' : Pos} {ns : List Str} {f : Str} (hK : X.K = B.K) (h : ∀ n ∈ ns, AttrOk B.K n f) (he : SE X B W e g) (hN : X.N[i]? = some x := by rfl) (hv : Vis X.env.scope x := by first | exact Or.inl rfl | exact Or.inr (Or.inl rfl) | exact Or.inr (Or.inr rfl))
    (hd : (x == ("__debug__" : Str)) = false := by decide) (hcd : (x == ("__classdict__" : Str)) = false := by decide) (hs : swapsWith e (some (.Attribute (.Name x p') f pos')) pos.line X.env = pure false := by rfl) :
    SS X B W (.Assign [.Attribute (.Name x p') f pos'] e pos) (fldG i ns f g) := by
  refine PS.imp (ps_fld (pe_var hN hv hd hcd) he hs) fun E σ H ⟨M, s, r, p⟩ => ⟨M, s, r, PostS.bind p fun d s1 M1 H1 v r1 q1 ev1 p1 => ?_⟩
  have key : ∀ (io : Bool) (n : Str) (fs : List (Str × D)), s1[i]? = some (if io then Sl.io (.i n fs) else Sl.ow (.i n fs)) → n ∈ ns ∧ fs.length < 1000 → PostS B W M1 H1 (.nx (s1.set i (if io then Sl.io (.i n (putD f d fs)) else Sl.ow (.i n (putD f d fs))))) E →
      ∃ v', σ[i]? = some (some v') ∧ ∃ a C dx vs, v' = .ref a ∧ H1 a = some (.ins C dx vs) ∧ Cls X.K C ∧ NoAttr X.K C f ∧ vs.length < 1000 ∧ E.nx σ (upd H1 a (.ins C dx (putF f v vs))) := fun io n fs hs hc p2 => by
    obtain ⟨C, hC, c, na⟩ := (h n hc.1).ex
    have : ∃ a o, σ[i]? = some (some (.ref a)) ∧ H1 a = some o ∧ M1 a ∧ MR B.K M1 H1 o (.i n fs) := by
      cases io with
      | true =>
        obtain ⟨z, a, xs, p, e1, q, m, l⟩ := r1.io i _ hs
        exact ⟨a, xs, z ▸ e1, q, m, l⟩
      | false =>
        obtain ⟨a, xs, e1, q, m, n0, l⟩ := r1.ow i _ hs
        exact ⟨a, xs, e1, q, m, l⟩
    obtain ⟨a, o, e1, h1, hm, l⟩ := this
    cases l with
    | @i C' dx _ vs _ hc' q l =>
      cases hC.uniq hc'
      have hl : vs.length = fs.length := by
        have := congrArg List.length q
        rwa [List.length_map, List.length_map] at this
      have ev : Ev M1 H1 M1 (upd H1 a (.ins C dx (putF f v vs))) := ⟨fun _ z => .inl z, fun b u e n => by
        have hb : b ≠ a := fun z => n (by rw [z]; exact hm)
        rw [upd_ne hb]
        exact e⟩
      obtain ⟨gs, g1, g2, rfl⟩ := putF_rp (f := f) (q1.move r1.mo ev) q (l.move r1.mo ev)
      obtain ⟨rr, ev2⟩ := r1.mutated (io := io) (ds := .i n fs) (es := .i n (putD f d fs)) hs e1 upd_same (.i hC g1 g2) step_upd
      exact ⟨_, e1, a, C, dx, vs, rfl, h1, hK ▸ c, hK ▸ na, by rw [hl]; exact hc.2, p2 σ _ M1 rr ev2⟩
  split at p1
  · rename_i n fs hs
    split at p1
    · rename_i hc
      exact key false n fs hs hc p1
    · exact p1.elim
  · rename_i n fs hs
    split at p1
    · rename_i hc
      exact key true n fs hs hc p1
    · exact p1.elim
  · exact p1.elim
/-! ### instances are made -/
section
variable {k n : Nat} {C f : Addr} {fd : FuncData} {ps : List Str} {sp : Sp} {E : L2.St → XK} {x : Str} {p : Pos} {t tk : TA} {gv : List Value → List Value → List Value} {gV : List V → List V → List V}
theorem run_makeT {pins : List (Addr × Obj)} {σ : L2.St} {H : Hp} {s : Shared} {Q : VK} {us : List Value} {vs : List V} (Mc : Mk X.K C f) (F : FnG X.prog X.w X.K X.mg X.base k f fd ps sp) (hr : Room (k + 1) X.A) (hq : X.A.guards = some []) (hb : KBinds X.K fd ps [] gv gV) (hx : PassesAt (L2.CX X.prog X.w) X σ (E σ))
    (I : Inv X pins σ H s) (r : Vals vs us)
    (h : ∀ y dx, H y = none → H dx = none → dx ≠ y → sp (gV (.ref y :: vs) []) (upd (upd H dx (.own y)) y (.ins C dx [])) (fun v H2 => v = .non ∧ Q (.ref y) H2) (E σ)) : wpAny (model X.prog X.w) X.A (call (.ref C) us) (EP X pins σ Q) X.xe s := by
  have want := h (s.heap.objs.size + 1) s.heap.objs.size (I.hok.fresh (Nat.le_succ _)) (I.hok.fresh (Nat.le_refl _)) (Nat.ne_of_lt (Nat.lt_succ_self _))
  have J := Inv.made (C := C) I
  have rs : Vals (V.ref (s.heap.objs.size + 1) :: vs) (Value.ref (s.heap.objs.size + 1) :: us) := .cons rfl r
  have rg := hb.rel rs (.nil : Vals [] [])
  have hl : (gv (Value.ref (s.heap.objs.size + 1) :: us) []).length = ps.length := by
    rw [← rg.length]
    exact F.len _ _ _ _ want
  refine wpAny_call (make_map (f := f) I.kIn Mc.makes Mc.init (beq_iff_eq.mp Mc.fn) (codeAny_mono (F.run _ X.stack _ _ ⟨Value.ref (s.heap.objs.size + 1) :: us, []⟩ _ _ _ (E σ) (hr.make C us []) hq (J.env0.make C us []) (hb.to _ _ [] J.kIn hl) rg want) fun o s' ho => ?_))
  match o, ho with
  | .error z, ho => exact hx pins _ _ z s' J ho
  | .ok (.ret u), ho =>
    obtain ⟨v, H', J', rv, ev, q3⟩ := J.after ho
    subst ev
    exact ⟨rv, ⟨V.ref (s.heap.objs.size + 1), H', J', rfl, q3⟩⟩
def tMakeT (C : Addr) (sp : Sp) (gV : List V → List V → List V) (E : L2.St → XK) (t : TA) : TE := fun σ H Q => t σ H fun vs H1 => ∀ y dx, H1 y = none → H1 dx = none → dx ≠ y →
  sp (gV (.ref y :: vs) []) (upd (upd H1 dx (.own y)) y (.ins C dx [])) (fun v H2 => v = .non ∧ Q (.ref y) H2) (E σ)
theorem pe_makeT (Mc : Mk X.K C f) (F : FnG X.prog X.w X.K X.mg X.base k f fd ps sp) (hr : Room (k + 1) X.A) (hq : X.A.guards = some []) (hg : Gl X x) (hm : X.mg x = some (.ref C)) (hb : KBinds X.K fd ps [] gv gV) (hx : ∀ σ, PassesAt (L2.CX X.prog X.w) X σ (E σ))
    (ha : PA X (e :: es) t) (hdb : (x == ("__debug__" : Str)) = false := by decide) (he : starEach (e :: es) X.env = (false, eval e X.env) :: starEach es X.env := by rfl) (hpl : (backTo pos (starEach es X.env)).any (·.1) = false := by rfl) :
    PE X (.Call (.Name x p) (e :: es) [] pos) (tMakeT C sp gV E t) :=
  ⟨fun pins s σ H Q I h => wpAny_Call_Name_kw (ld_glob I hg hm (PySem.W.callWith_K (h₀ := X.base) I.ok.mod.kin Mc.kp (thn (ha.run pos pins s σ H _ I h) fun us s1 ⟨vs, H1, J, r, q⟩ => ⟨J.kIn, run_makeT Mc F hr hq hb (hx σ) J r q⟩) he hpl) hdb)⟩
/-- o.m(..) -/
theorem meth_run {pins : List (Addr × Obj)} {σ : L2.St} {H : Hp} {s : Shared} {Q : VK} {a : Addr} {us ws : List Value} {vs zs : List V} {ks : List Str} (F : FnG X.prog X.w X.K X.mg X.base k f fd ps sp) (hr : Room k X.A) (hq : X.A.guards = some []) (hb : KBinds X.K fd ps ks gv gV) (hx : PassesAt (L2.CX X.prog X.w) X σ (E σ))
    (I : Inv X pins σ H s) (r : Vals vs us) (rz : Vals zs ws) (h : sp (gV (.ref a :: vs) zs) H Q (E σ)) : wpAny (model X.prog X.w) X.A (call (.ref f) (.ref a :: us) (ks.zip ws)) (EP X pins σ Q) X.xe s :=
  run_fnT (us := .ref a :: us) (vs := .ref a :: vs) F hr hq hb hx I (.cons rfl r) rz h
/-- the object first, then the method is looked up, then the arguments -/
def tMethT (K : PySem.W.Frag) (C : Addr) (m : Str) (sp : Sp) (gV : List V → List V → List V) (E : L2.St → XK) (to : TE) (t tk : TA) : TE := fun σ H Q => to σ H fun v H1 => ∃ a dx fs, v = .ref a ∧ H1 a = some (.ins C dx fs) ∧ fs.lookup m = none ∧
  t σ H1 fun vs H2 => tk σ H2 fun zs H3 => sp (gV (.ref a :: vs) zs) H3 Q (E σ)
section
variable {m : Str} {apos : Pos} {to : TE} {ks : List Str} {pl : Sem Bool} (ho : PE X o to) (c : Cls X.K C) (hm : Meth X.K C m f) (F : FnG X.prog X.w X.K X.mg X.base k f fd ps sp) (hr : Room k X.A) (hq : X.A.guards = some []) (hb : KBinds X.K fd ps ks gv gV) (hx : ∀ σ, PassesAt (L2.CX X.prog X.w) X σ (E σ))
include ho c hm F hr hq hb hx
theorem pe_methTK0 (hkw : PK X kws tk) (hall : (backToKw pos (keywordEach kws X.env)).all (·.1.isSome) = true) (hks : (backToKw pos (keywordEach kws X.env)).filterMap (·.1) = ks)
    (hpl : ((backTo pos (starEach [] X.env)).any (·.1) || (backToKw pos (keywordEach kws X.env)).any (·.1.isNone)) = false)
    (ht : eval (.Call (.Attribute o m apos) [] kws pos) X.env = (do
      let ov ← eval o X.env
      standAt apos.atName
      let (f, first) ← holding [ov] (getMethod ov m pl)
      callWith pos f first (backTo pos (starEach [] X.env)) (backToKw pos (keywordEach kws X.env)))) :
    PE X (.Call (.Attribute o m apos) [] kws pos) (tMethT X.K C m sp gV E to tNil tk) := by
  refine ⟨fun pins s σ H Q I h => PySem.W.methodCall_KW (pl := pl) (thn (ho.run pins s σ H _ I h) fun u s1 ⟨x, H1, J, rx, a, dx, fs, ex, ea, l, q⟩ => ?_) ht⟩
  subst ex
  obtain rfl : u = Value.ref a := rx
  refine getmeth_ok J ea c hm l (PySem.W.callWith_KW0 (first := [.ref a]) (h₀ := X.base) J.ok.mod.kin hm.kp hall (thn (hkw.run pos pins s1 σ H1 _ J q) fun ws s2 ⟨zs, H2, J2, rz, q2⟩ => ⟨J2.kIn, ?_⟩) hpl)
  rw [hks]
  exact meth_run F hr hq hb (hx σ) J2 .nil rz q2
theorem pe_methTK (ha : PA X (e :: es) t) (hkw : PK X kws tk) (hall : (backToKw pos (keywordEach kws X.env)).all (·.1.isSome) = true) (hks : (backToKw pos (keywordEach kws X.env)).filterMap (·.1) = ks)
    (he : starEach (e :: es) X.env = (false, eval e X.env) :: starEach es X.env) (hpl : ((backTo pos (starEach (e :: es) X.env)).any (·.1) || (backToKw pos (keywordEach kws X.env)).any (·.1.isNone)) = false)
    (ht : eval (.Call (.Attribute o m apos) (e :: es) kws pos) X.env = (do
      let ov ← eval o X.env
      standAt apos.atName
      let (f, first) ← holding [ov] (getMethod ov m pl)
      callWith pos f first (backTo pos (starEach (e :: es) X.env)) (backToKw pos (keywordEach kws X.env)))) :
    PE X (.Call (.Attribute o m apos) (e :: es) kws pos) (tMethT X.K C m sp gV E to t tk) := by
  refine ⟨fun pins s σ H Q I h => PySem.W.methodCall_KW (pl := pl) (thn (ho.run pins s σ H _ I h) fun u s1 ⟨x, H1, J, rx, a, dx, fs, ex, ea, l, q⟩ => ?_) ht⟩
  subst ex
  obtain rfl : u = Value.ref a := rx
  refine getmeth_ok J ea c hm l (PySem.W.callWith_KW (first := [.ref a]) (h₀ := X.base) J.ok.mod.kin hm.kp hall (thn (ha.run pos pins s1 σ H1 _ J q) fun us s2 ⟨vs, H2, J2, r, q2⟩ => thn (hkw.run pos pins s2 σ H2 _ J2 q2) fun ws s3 ⟨zs, H3, J3, rz, q3⟩ => ⟨J3.kIn, ?_⟩) hpl he)
  rw [hks]
  exact meth_run F hr hq hb (hx σ) J3 r rz q3
end
end
/-! ### .. by functions on data -/
theorem call_post {Fn : List D → FR} {n : Nat} {M : MS} {σ : L2.St} {H : Hp} {s : List Sl} {vs : List V} {ds : List D} {Q : VK} (r : SR B M σ H s) (ql : RpL B.K M H vs ds)
    (p : Post B W (rhoD B) M H σ (if ds.length = n then ofFR (Fn ds) (fun _ => s) else .no) Q) : spF B.K false n Fn vs H Q (WE W σ) := by
  split at p
  case isFalse => exact p.elim
  case isTrue hn =>
  refine ⟨ql.length.trans hn, M, ds, r.mo, ql, ?_⟩
  revert p
  cases Fn ds with
  | ret d ios => exact fun p v H' st _ q => p.grow r (same_of rfl st) q
  | retn es ios => exact fun p a xs H' st hn hp _ q => p.grow r (same_of rfl st) (.lst hp (r.mo.there hn) (q.move (mok_with (r.mo.same (same_of rfl st)) hp) (.sub fun _ z => .inl z)))
  | er x ios => exact fun p cls od H' st _ q => p cls od H' M (r.grow (same_of rfl st)) q
  | no => exact fun p => p
/-- a method that is known -/
structure MKn (P : Program) (w : World) (K : PySem.W.Frag) (mg : Str → Option Value) (base : Heap) (cn m qual : Str) (st : Stmt) (k : Nat) (io : Bool) (ps : List Str) (Fn : List D → FR) : Prop where
  ex : ∃ (C f : Addr) (fd : FuncData), ClsAt K cn C ∧ Cls K C ∧ Meth K C m f ∧ Fun K m qual st f fd ∧ FnG P w K mg base k f fd ps (spF K io ps.length Fn)
structure DnM (X : Cx) (B : Bs) (W : WX) (cn m : Str) (io : Bool) (n : Nat) (Fn : List D → FR) (ks : List Str) (gD : List D → List D → List D) : Prop where
  ex : ∃ (k : Nat) (C f : Addr) (fd : FuncData) (ps : List Str) (g : List Value → List Value → List Value) (gV : List V → List V → List V), ClsAt B.K cn C ∧ Cls X.K C ∧ Meth X.K C m f ∧ FnG X.prog X.w X.K X.mg X.base k f fd ps (spF B.K io n Fn) ∧ Room k X.A ∧ X.A.guards = some [] ∧
    KBinds X.K fd ps ks g gV ∧ GD B.K gV gD
  tk : Takes X W
theorem MKn.dn {P : Program} {w : World} {K : PySem.W.Frag} {mg : Str → Option Value} {base : Heap} {cn m qual : Str} {st : Stmt} {k j : Nat} {io : Bool} {ps ks : List Str} {Fn : List D → FR} {n1 : Nat} {idx : List Nat} (kn : MKn P w K mg base cn m qual st k io ps Fn)
    (hX : X.prog = P ∧ X.w = w ∧ X.K = K ∧ X.mg = mg ∧ X.base = base) (hK : B.K = K) (hr : Room j X.A) (hk : k ≤ j) (hq : X.A.guards = some []) (tk : Takes X W) (hp : 0 < ps.length)
    (h : ∀ (kV doc pm : Value) (an : Option Addr) (cdv ct : Value) (us ws : List Value), us.length = n1 → ws.length = ks.length → bindArgs (PySem.W.fnOf m qual (defArgs st) (defBody st) (defScope st) .none kV doc pm an cdv ct) ⟨us, ks.zip ws⟩ = pure (ps.zip (idx.filterMap fun i => (us ++ ws ++ [])[i]?))) :
    DnM X B W cn m io ps.length Fn ks (pickG n1 ks.length [] idx) := by
  obtain ⟨rfl, rfl, rfl, rfl, rfl⟩ := hX
  obtain ⟨C, f, fd, hC, c, hm, F, G⟩ := kn.ex
  exact ⟨⟨k, C, f, fd, ps, _, _, hK ▸ hC, c, hm, hK ▸ G, hr.mono hk, hq, Fun.kb F hp h, pick_gd fun _ _ => .nil⟩, tk⟩
section
variable {cn m : Str} {n : Nat} {Fn : List D → FR} {ks : List Str} {gD : List D → List D → List D} {apos : Pos}
/-- o.m(e, .., k = v, ..), o of the class cn -/
def methF (cn m : Str) (Fn : List D → FR) (n : Nat) (gD : List D → List D → List D) (g : F D) (k kk : F (List D)) : F D := fun s => (g s).bind fun d s1 => match d with
  | .ins c fs => if c = cn ∧ fs.lookup m = none then (k s1).bind fun ds s2 => (kk s2).bind fun es s3 => if (gD (.ins c fs :: ds) es).length = n then ofFR (Fn (gD (.ins c fs :: ds) es)) (fun _ => s3) else .no else .no
  | _ => .no
theorem lookup_no {m : Str} : ∀ {vs : List (Str × V)} {gs : List (Str × D)}, vs.map (·.1) = gs.map (·.1) → gs.lookup m = none → vs.lookup m = none
  | [], [], _, _ => rfl
  | [], _ :: _, h, _ => by cases h
  | _ :: _, [], h, _ => by cases h
  | (a, v) :: vs, (b, x) :: gs, h, e => by
    rw [List.map_cons, List.map_cons] at h
    obtain ⟨h1, h2⟩ := List.cons.inj h
    have h1 : a = b := h1
    subst h1
    rw [List.lookup_cons] at e ⊢
    cases hf : m == a with
    | true =>
      rw [hf] at e
      cases e
    | false =>
      rw [hf] at e
      exact lookup_no h2 e
theorem meth_read {C : Addr} {gV : List V → List V → List V} {ka kk : F (List D)} {to : TE} {ta tk : TA} {σ : L2.St} {H : Hp} {Q : VK} (hC : ClsAt B.K cn C) (gd : GD B.K gV gD) (ho : ∀ Q, tP B W (rhoD B) g σ H Q → to σ H Q)
    (ha : ∀ H Q, tP B W (rhoL B) ka σ H Q → ta σ H Q) (hk : ∀ H Q, tP B W (rhoL B) kk σ H Q → tk σ H Q) (h : tP B W (rhoD B) (methF cn m Fn n gD g ka kk) σ H Q) : tMethT B.K C m (spF B.K false n Fn) gV (WE W) to ta tk σ H Q := by
  obtain ⟨M, s, r, p⟩ := h
  refine ho _ ⟨M, s, r, Post.bind p fun d s1 M1 H1 v r1 q1 ev1 p1 => ?_⟩
  split at p1
  · rename_i c fs
    split at p1
    · rename_i hc
      obtain ⟨rfl, hl⟩ := hc
      have q1' := q1
      cases q1' with
      | ins h1 hm hc q l =>
        cases hC.uniq hc
        refine ⟨_, _, _, rfl, h1, lookup_no q hl, ha _ _ ⟨M1, s1, r1, Post.bind p1 fun ds s2 M2 H2 vs r2 q2 ev2 p2 => hk _ _ ⟨M2, s2, r2, Post.bind p2 fun es s3 M3 H3 zs r3 q3 ev3 p3 => ?_⟩⟩⟩
        exact call_post r3 (gd M3 H3 _ zs _ es (.cons ((q1.move r1.mo ev2).move r2.mo ev3) (q2.move r2.mo ev3)) q3) p3
    · exact p1.elim
  · exact p1.elim
theorem se_methK0 {pl : Sem Bool} (D : DnM X B W cn m false n Fn ks gD) (he : SE X B W o g) (hkw : SK X B W kws kk) (hall : (backToKw pos (keywordEach kws X.env)).all (·.1.isSome) = true := by rfl) (hks : (backToKw pos (keywordEach kws X.env)).filterMap (·.1) = ks := by rfl)
    (hpl : ((backTo pos (starEach [] X.env)).any (·.1) || (backToKw pos (keywordEach kws X.env)).any (·.1.isNone)) = false := by rfl)
    (ht : eval (.Call (.Attribute o m apos) [] kws pos) X.env = (do
      let ov ← eval o X.env
      standAt apos.atName
      let (f, first) ← holding [ov] (getMethod ov m pl)
      callWith pos f first (backTo pos (starEach [] X.env)) (backToKw pos (keywordEach kws X.env))) := by rfl) :
    SE X B W (.Call (.Attribute o m apos) [] kws pos) (methF cn m Fn n gD g nilF kk) := by
  obtain ⟨⟨k, C, f, fd, ps, g, gV, hC, c, hm, F, hr, hq, hb, gd⟩, tk⟩ := D
  exact PE.imp (pe_methTK0 he c hm F hr hq hb (passAt tk) hkw hall hks hpl ht) fun σ H Q p => meth_read hC gd (fun _ q => q) (fun H Q ⟨M, s, r, p⟩ => p.out r .nil) (fun _ _ q => q) p
theorem se_methK {pl : Sem Bool} (D : DnM X B W cn m false n Fn ks gD) (he : SE X B W o g) (ha : SA X B W (e :: es) k) (hkw : SK X B W kws kk) (hall : (backToKw pos (keywordEach kws X.env)).all (·.1.isSome) = true := by rfl) (hks : (backToKw pos (keywordEach kws X.env)).filterMap (·.1) = ks := by rfl)
    (hst : starEach (e :: es) X.env = (false, eval e X.env) :: starEach es X.env := by rfl) (hpl : ((backTo pos (starEach (e :: es) X.env)).any (·.1) || (backToKw pos (keywordEach kws X.env)).any (·.1.isNone)) = false := by rfl)
    (ht : eval (.Call (.Attribute o m apos) (e :: es) kws pos) X.env = (do
      let ov ← eval o X.env
      standAt apos.atName
      let (f, first) ← holding [ov] (getMethod ov m pl)
      callWith pos f first (backTo pos (starEach (e :: es) X.env)) (backToKw pos (keywordEach kws X.env))) := by rfl) :
    SE X B W (.Call (.Attribute o m apos) (e :: es) kws pos) (methF cn m Fn n gD g k kk) := by
  obtain ⟨⟨k, C, f, fd, ps, g, gV, hC, c, hm, F, hr, hq, hb, gd⟩, tk⟩ := D
  exact PE.imp (pe_methTK he c hm F hr hq hb (passAt tk) ha hkw hall hks hst hpl ht) fun σ H Q p => meth_read hC gd (fun _ q => q) (fun _ _ q => q) (fun _ _ q => q) p
end
/-! ### C(e, ..) -/
structure DnC (X : Cx) (B : Bs) (W : WX) (cn : Str) (n : Nat) (Fi : List D → FR) : Prop where
  ex : ∃ (k : Nat) (C f : Addr) (fd : FuncData) (ps : List Str), ClsAt B.K cn C ∧ Mk X.K C f ∧ FnG X.prog X.w X.K X.mg X.base k f fd ps (spF B.K true n Fi) ∧ Room (k + 1) X.A ∧ X.A.guards = some [] ∧ Gl X cn ∧ X.mg cn = some (.ref C) ∧
    KBinds X.K fd ps [] (pickG n 0 [] (List.range n)) (pickG n 0 [] (List.range n))
  tk : Takes X W
/-- a class whose instances are made by its own __init__ -/
structure CKn (P : Program) (w : World) (K : PySem.W.Frag) (mg : Str → Option Value) (base : Heap) (cn qual : Str) (st : Stmt) (k : Nat) (ps : List Str) (Fi : List D → FR) : Prop where
  ex : ∃ (C f : Addr) (fd : FuncData), ClsAt K cn C ∧ Mk K C f ∧ Fun K "__init__" qual st f fd ∧ FnG P w K mg base k f fd ps (spF K true ps.length Fi) ∧ mg cn = some (.ref C)
theorem CKn.dn {P : Program} {w : World} {K : PySem.W.Frag} {mg : Str → Option Value} {base : Heap} {cn qual : Str} {st : Stmt} {k j : Nat} {ps : List Str} {Fi : List D → FR} (kn : CKn P w K mg base cn qual st k ps Fi)
    (hX : X.prog = P ∧ X.w = w ∧ X.K = K ∧ X.mg = mg ∧ X.base = base) (hK : B.K = K) (hr : Room j X.A) (hk : k + 1 ≤ j) (hq : X.A.guards = some []) (hg : Gl X cn) (tk : Takes X W) (hp : 0 < ps.length)
    (h : ∀ (kV doc pm : Value) (an : Option Addr) (cdv ct : Value) (us ws : List Value), us.length = ps.length → ws.length = ([] : List Str).length → bindArgs (PySem.W.fnOf "__init__" qual (defArgs st) (defBody st) (defScope st) .none kV doc pm an cdv ct) ⟨us, ([] : List Str).zip ws⟩ = pure (ps.zip ((List.range ps.length).filterMap fun i => (us ++ ws ++ [])[i]?))) :
    DnC X B W cn ps.length Fi := by
  obtain ⟨rfl, rfl, rfl, rfl, rfl⟩ := hX
  obtain ⟨C, f, fd, hC, Mc, F, G, hm⟩ := kn.ex
  exact ⟨⟨k, C, f, fd, ps, hK ▸ hC, Mc, hK ▸ G, hr.mono hk, hq, hg, hm, Fun.kb (ks := []) F hp h⟩, tk⟩
/-- what the making comes to: the fields -/
def madeR (cn : Str) (r : FR) : Option (Sum (List (Str × D)) XD) := match r with
  | .ret .non (.i c fs) => if c = cn then some (.inl fs) else none
  | .er x _ => some (.inr x)
  | _ => none
def makeF (cn : Str) (Fi : List D → FR) (n : Nat) (k : F (List D)) : F D := fun s => (k s).bind fun ds s1 => if ds.length + 1 = n then match madeR cn (Fi (.ins cn [] :: ds)) with
    | some (.inl fs) => .ok (.ins cn fs) s1
    | some (.inr x) => .er x s1
    | none => .no
  else .no
def makeG (i : Nat) (cn : Str) (Fi : List D → FR) (n : Nat) (k : F (List D)) : G := fun s => (k s).out fun ds s1 => if ds.length + 1 = n ∧ okSl s1 i = true then match madeR cn (Fi (.ins cn [] :: ds)) with
    | some (.inl fs) => .nx (s1.set i (.ow (.i cn fs)))
    | some (.inr x) => .er x s1
    | none => .no
  else .no
/-- the promise of __init__ at a fresh instance -/
theorem made_spec {cn : Str} {C : Addr} {n : Nat} {Fi : List D → FR} {M : MS} {σ : L2.St} {H : Hp} {s : List Sl} {vs : List V} {ds : List D} {Q' : Addr → Hp → Prop} (hC : ClsAt B.K cn C) (r : SR B M σ H s) (q : RpL B.K M H vs ds) (hn : ds.length + 1 = n)
    (kOk : ∀ fs, madeR cn (Fi (.ins cn [] :: ds)) = some (.inl fs) → ∀ y dx H' ws, H y = none → Same H H' → H' y = some (.ins C dx ws) → ws.map (·.1) = fs.map (·.1) → RpL B.K (With M y) H' (ws.map (·.2)) (fs.map (·.2)) → MOk (With M y) H' → Q' y H')
    (kEr : ∀ x, madeR cn (Fi (.ins cn [] :: ds)) = some (.inr x) → ∀ cls od H', Same H H' → XR B.K M H' cls od x → W cls od σ H') (hno : madeR cn (Fi (.ins cn [] :: ds)) ≠ none) :
    ∀ y dx, H y = none → H dx = none → dx ≠ y → spF B.K true n Fi (pickG n 0 [] (List.range n) (.ref y :: vs) []) (upd (upd H dx (.own y)) y (.ins C dx [])) (fun v H2 => v = .non ∧ Q' y H2) (WE W σ) := by
  intro y dx ny nd hd
  have hvl : (V.ref y :: vs).length = n := by rw [List.length_cons, q.length]; exact hn
  rw [pick_range hvl]
  have g1 : Same H (upd H dx (.own y)) := same_upd nd
  have ny1 : (upd H dx (.own y)) y = none := by rw [upd_ne hd.symm]; exact ny
  have g2 : Same H (upd (upd H dx (.own y)) y (.ins C dx [])) := fun b o e => same_upd ny1 b o (g1 b o e)
  have mW : ∀ {H' : Hp}, (∃ o, H' y = some o ∧ Mut (some o)) → Same H H' → MOk (With M y) H' := fun {H'} hy g b z => z.elim (r.mo.same g b) fun z => by
    obtain ⟨o, e, mu⟩ := hy
    rw [z, e]
    exact mu
  have back : ∀ {H' : Hp}, Step (ioM true (.ref y :: vs)) (upd (upd H dx (.own y)) y (.ins C dx [])) H' → Same H H' := fun {H'} st b o e => st b o (g2 b o e) fun ⟨_, r', z⟩ => by
    cases z
    rw [ny] at e
    cases e
  refine ⟨hvl, With M y, .ins cn [] :: ds, mW ⟨_, upd_same, trivial⟩ g2, ⟨y, .ins C dx [], .i cn [], vs, ds, rfl, rfl, upd_same, .inr rfl, .i hC rfl .nil, RpL.grow1 ny1 (q.move r.mo (.same g1))⟩, ?_⟩
  unfold madeR at kOk kEr hno
  revert kOk kEr hno
  cases Fi (.ins cn [] :: ds) with
  | ret d ios =>
    intro kOk kEr hno v H' st ir qv
    obtain ⟨a2, r2, o, h1, h2, h3⟩ := ir rfl
    cases h1
    cases h3 with
    | l h3 =>
      refine absurd ?_ hno
      cases d <;> rfl
    | @i C' dx' c ws fs hc e l =>
      cases d with
      | non =>
        cases qv
        dsimp only at kOk hno
        by_cases hcn : c = cn
        · subst hcn
          cases hC.uniq hc
          exact ⟨rfl, kOk fs (if_pos rfl) y _ H' _ ny (back st) h2 e l (mW ⟨_, h2, trivial⟩ (back st))⟩
        · exact absurd (if_neg hcn) hno
      | _ => exact absurd rfl hno
  | retn es ios => exact fun _ _ hno => absurd rfl hno
  | er x ios =>
    intro kOk kEr hno cls od H' st ir qx
    obtain ⟨a2, r2, o, h1, h2, h3⟩ := ir rfl
    cases h1
    exact kEr x rfl cls od H' (back st) (qx.sub (mW ⟨o, h2, h3.mut⟩ (back st)) fun _ z => .inl z)
  | no => exact fun _ _ hno => absurd rfl hno
theorem se_make {cn : Str} {p : Pos} {n : Nat} {Fi : List D → FR} (D0 : DnC X B W cn n Fi) (ha : SA X B W (e :: es) k) (hdb : (cn == ("__debug__" : Str)) = false := by decide) (he : starEach (e :: es) X.env = (false, eval e X.env) :: starEach es X.env := by rfl) (hpl : (backTo pos (starEach es X.env)).any (·.1) = false := by rfl) :
    SE X B W (.Call (.Name cn p) (e :: es) [] pos) (makeF cn Fi n k) := by
  obtain ⟨⟨k', C, f, fd, ps, hC, Mc, F, hr, hq, hg, hm, hb⟩, tk⟩ := D0
  refine PE.imp (pe_makeT Mc F hr hq hg hm hb (passAt tk) ha hdb he hpl) fun σ H Q ⟨M, s, r, p⟩ => ⟨M, s, r, Post.bind p fun ds s1 M1 H1 vs r1 q1 ev1 p1 => ?_⟩
  split at p1
  case isFalse => exact p1.elim
  case isTrue hn =>
  refine made_spec (Q' := fun y H' => Q (.ref y) H') hC r1 q1 hn (fun fs hf y dx H' ws ny g hy e l mo => ?_) (fun x hx cls od H' g qx => ?_) (fun z => ?_)
  · rw [hf] at p1
    have ny1 : ¬ M1 y := r1.mo.there ny
    exact p1 (.ref y) H' M1 (r1.grow g) (.ins hy ny1 hC e (l.move mo (.sub fun _ z => .inl z))) (.same g)
  · rw [hx] at p1
    exact p1 cls od H' M1 (r1.grow g) qx
  · rw [z] at p1
    exact p1
/-- name = C(e, ..), the instance may still be changed -/
theorem ss_setMk {cn : Str} {p : Pos} {n i : Nat} {y : Str} {py : Pos} {Fi : List D → FR} (D0 : DnC X B W cn n Fi) (ha : SA X B W (e :: es) k) (hN : X.N.Nodup) (hi : X.N[i]? = some y) (hx : Loc X.env.scope y) (hs : swapsWith (.Call (.Name cn p) (e :: es) [] pos) (some (.Name y py)) py.line X.env = pure false := by rfl)
    (hf : X.fn y = true ∨ X.env.scope.names.lookup y = some .local := by first | exact .inl rfl | exact .inr rfl | assumption) (hdb : (cn == ("__debug__" : Str)) = false := by decide) (he : starEach (e :: es) X.env = (false, eval e X.env) :: starEach es X.env := by rfl) (hpl : (backTo pos (starEach es X.env)).any (·.1) = false := by rfl) (spos : Pos)
    (hs2 : swapsWith (.Call (.Name cn p) (e :: es) [] pos) (some (.Name y py)) spos.line X.env = pure false := by rfl) :
    SS X B W (.Assign [.Name y py] (.Call (.Name cn p) (e :: es) [] pos) spos) (makeG i cn Fi n k) := by
  obtain ⟨⟨k', C, f, fd, ps, hC, Mc, F, hr, hq, hg, hm, hb⟩, tk⟩ := D0
  refine PS.imp (ps_set hN hi hx (pe_makeT Mc F hr hq hg hm hb (passAt tk) ha hdb he hpl) hs2 hf) fun E σ H ⟨M, s, r, p⟩ => ⟨M, s, r, PostS.bind p fun ds s1 M1 H1 vs r1 q1 ev1 p1 => ?_⟩
  split at p1
  case isFalse => exact p1.elim
  case isTrue hn =>
  refine made_spec (Q' := fun y H' => gName i (.ref y) σ H' fun σ2 H2 => E.nx σ2 H2) hC r1 q1 hn.1 (fun fs hf y dx H' ws ny g hy e l mo => ?_) (fun x hx cls od H' g qx => ?_) (fun z => ?_)
  · rw [hf] at p1
    have hL : B.L y = none := by
      cases h : B.L y with
      | none => rfl
      | some o =>
        have := (r1.lk y o h).2.1
        rw [ny] at this
        cases this
    have rr : SR B (With M1 y) σ H' s1 := (r1.laidO (xs := .ins C dx ws) trivial ny).grow fun b o h => by
      by_cases hb : b = y
      · subst hb
        rw [upd_same] at h
        rw [hy]
        exact h
      · rw [upd_ne hb] at h
        exact g b o h
    have h0 : B.H0 y = none := by
      rcases rr.dn y (.inr rfl) with z | z
      · exact absurd (r1.up y z) (r1.mo.there ny)
      · exact z
    exact p1 _ H' _ (rr.putOw hy (.inr rfl) h0 (.i hC e l) (r1.noOw ny) hL (okSl.io hn.2) (okSl.lt hn.2)) ⟨fun c z => z.elim .inl fun z => .inr (z ▸ ny), .same g⟩
  · rw [hx] at p1
    exact p1 cls od σ H' M1 (r1.grow g) qx
  · rw [z] at p1
    exact p1
end
end Fx

set_option Elab.async false
set_option linter.all false
set_option maxRecDepth 100000
namespace PySem
open AutoSeq1 (wpAny_loadPart')
theorem meets_enumerate_newT (l : Addr) (items : Array Value) (n : Nat) (dct : Option Addr) (sl : Array (Option Value)) :
    Meets (Builtin.«enumerate.__new__» ⟨[.type "enumerate", .ref l], []⟩) (fun _ R s => s.heap.get? l = some { cls := .type "tuple", dict := dct, data := .seq items n, slots := sl } ∧
      R (.ok (.ret (.ref (s.heap.push { cls := .type "tuple_iterator", data := .fields #[.ref l, .int 0 0] }).objs.size)))
        { s with heap := (s.heap.push { cls := .type "tuple_iterator", data := .fields #[.ref l, .int 0 0] }).push { cls := .type "enumerate", data := .fields #[.none, .bool false, .ref s.heap.objs.size, rawInt 0, .none, .none] } }) :=
  .of_wp fun prog w A R s h => by
    obtain ⟨hp, g, d, tk, os⟩ := s; obtain ⟨hl, h⟩ := h
    have hsub := sub_enumerate
    have hL : Heap.IsTuple (Shared.heap ⟨hp, g, d, tk, os⟩) l items := ⟨_, hl, rfl, n, rfl⟩
    wp_walk using wpAny_loadPart' hl
    refine wpAny_stack_any fun st => wpAny_pure ?_
    split
    · rename_i c _ _ _ _ _
      cases (c == Value.type "enumerate")
      · wp_walk using wpAny_loadPart' hl, wpAny_pyIter_tuple hL
        exact ⟨_, rfl, h⟩
      · wp_walk using wpAny_loadPart' hl, wpAny_pyIter_tuple hL
        exact ⟨_, rfl, h⟩
    · wp_walk using wpAny_loadPart' hl, wpAny_pyIter_tuple hL
      exact ⟨_, rfl, h⟩
section
variable {prog : Program} {w : World} {A : Around} {E : Value → Shared → Prop} {s : Shared}
theorem call_enumerate_tuple {l : Addr} {items : Array Value} {Q : Value → Shared → Prop} (hL : s.heap.IsTuple l items)
    (h : ∀ h', IsEnum h' (s.heap.objs.size + 1) s.heap.objs.size 0 .none → h'.IsTupleIter s.heap.objs.size l 0 → h'.objs.size = s.heap.objs.size + 2 →
      (∀ b o, s.heap.get? b = some o → h'.get? b = some o) → Q (.ref (s.heap.objs.size + 1)) { s with heap := h' }) :
    wpAny (model prog w) A (call (.type "enumerate") [.ref l]) Q E s := by
  obtain ⟨⟨c, dct, dt, sl⟩, hl, hc, n, hd⟩ := hL
  replace hc : c = .type "tuple" := hc
  replace hd : dt = .seq items n := hd
  subst hc hd
  refine callType_new F.called_enumerate (by decide) (F.typeCall_enumerate_1 _) (F.newCall_enumerate_1 _) (fun obj => F.args_object_init_2 obj _) F.entry_enumerate_new
    (meets_enumerate_newT l items n dct sl) ⟨hl, ?_⟩
  have hz : (s.heap.push { cls := .type "tuple_iterator", data := .fields #[.ref l, .int 0 0] }).objs.size = s.heap.objs.size + 1 := Heap.size_push ..
  show _ ∧ _
  rw [hz]
  have he : IsEnum ((s.heap.push { cls := .type "tuple_iterator", data := .fields #[.ref l, .int 0 0] }).push
      { cls := .type "enumerate", data := .fields #[.none, .bool false, .ref s.heap.objs.size, rawInt 0, .none, .none] }) (s.heap.objs.size + 1) s.heap.objs.size 0 .none := by
    have := Heap.get?_push_size (s.heap.push { cls := .type "tuple_iterator", data := .fields #[.ref l, .int 0 0] })
      (o := { cls := .type "enumerate", data := .fields #[.none, .bool false, .ref s.heap.objs.size, rawInt 0, .none, .none] }) rfl
    rw [hz] at this; exact this
  refine ⟨⟨_, he, rfl⟩, h _ he ⟨_, Heap.get?_push_of_some _ (Heap.get?_push_size _ rfl), rfl, rfl⟩ (by rw [Heap.size_push, hz]) fun b o x => Heap.get?_push_of_some _ (Heap.get?_push_of_some _ x)⟩
end
end PySem
namespace Fx
open PySem L2 PyProof.Rows
/-- the tuple at a, each item in a new pair -/
def IteT (K : PySem.W.Frag) (a : Addr) : It :=
  ⟨fun i H => ∃ (xs : List V) (x : V), SqT K H a xs ∧ xs[i]? = some x, fun i H v H' => ∃ T x, v = .ref T ∧ H T = none ∧ H' = upd H T (.tup [.int (i : Nat), x]) ∧ ∀ xs, SqT K H a xs → xs[i]? = some x, fun i H => ∃ xs : List V, SqT K H a xs ∧ xs.length = i⟩
theorem turn_enumT {P : Program} {w : World} {K : PySem.W.Frag} {elts : List Expr} {kk : Nat} {tpos : Pos} (a e it : Addr) :
    Turn P w K (.Tuple elts kk tpos) (IteT K a) [e, it] e (fun i h => (∃ old, IsEnum h e it ((i : Nat) : Int) old) ∧ h.IsTupleIter it a i ∧ e ≠ it ∧ a ≠ it ∧ a ≠ e) where
  mem := by simp
  obj := fun i h st b hb => by
    obtain ⟨⟨old, he⟩, ⟨o, ho, hc, hd⟩, _⟩ := st
    have e' : b = e ∨ b = it := by simpa using hb
    rcases e' with z | z
    · rw [z]; exact ⟨_, he, fun v q => nomatch q⟩
    · rw [z]; exact ⟨o, ho, fun v q => by rw [hd] at q; cases q⟩
  keep := fun i h h' st k => let ⟨⟨old, he⟩, hi, hne⟩ := st; ⟨⟨old, k e (by simp) _ he⟩, hi.at fun o q => k it (by simp) o q, hne⟩
  item := by
    intro X hP hw hK hc i pins s σ H E I hf st hg
    subst hP hw hK
    obtain ⟨⟨old, he⟩, hit, hne, hai, hae⟩ := st
    obtain ⟨xs, x, hq, hx⟩ := hg
    obtain ⟨its, rv, p, hz⟩ := I.tuple hq
    obtain ⟨u, hu, ru⟩ := rv.get hx
    have hel : e < s.heap.objs.size := Heap.lt_size he
    have hil : it < s.heap.objs.size := by obtain ⟨_, q, _⟩ := hit; exact Heap.lt_size q
    have hi : i < its.toArray.size := by
      have := (List.getElem?_eq_some_iff.mp hu).1
      simpa using this
    refine wpAny_pyNext_enum_itemD (Draws.tuple (A := X.A.in1) (show X.A.in1.handled = none from I.ok.hd hc) it a hai its.toArray) he ⟨hit, p⟩ hi hne (by simp [hne, Ne.symm hae]) fun x' h' tk hP ho hit' hT hsz hk => ?_
    have hx' : x' = u := by
      have e1 : its.toArray[i]? = some u := by simpa using hu
      rw [e1] at hP
      exact (Option.some.inj hP).symm
    subst hx'
    refine ⟨_, rfl, wpAny_letOwnedTupleGo_enum (s := { s with heap := h', toks := tk + 1 }) ho fun h'' he' sb => ?_⟩
    have hT2 : h''.get? s.heap.objs.size = some { cls := .type "tuple", data := .seq #[.int i tk, x'] } := (sb.2 _ (Nat.ne_of_gt hel)).trans hT
    have new : ObjOk X.prog X.w (upd H s.heap.objs.size (.tup [.int (i : Nat), x])) h'' s.heap.objs.size (.tup [.int (i : Nat), x]) :=
      ⟨by show 2 ≤ sizeLine; decide, [.int i tk, x'], .cons ⟨_, rfl⟩ (.cons ru .nil), ⟨_, hT2, rfl, _, rfl⟩⟩
    have I1 : Inv X pins σ (upd H s.heap.objs.size (.tup [.int (i : Nat), x])) { s with heap := h'', toks := tk + 1 } :=
      I.turnedNew (ch := [e, it]) (fun b ob hb q => (sb.2 b (fun z => hb (by simp [z]))).trans (hk b ob (fun z => hb (by simp [z])) (fun z => hb (by simp [z])) q)) hf (Nat.le_refl _) new
    refine ⟨.ref s.heap.objs.size, _, I1, rfl, ⟨_, x, rfl, I.hok.fresh (Nat.le_refl _), rfl, fun ys hy => by rw [I.tuple_inj hy hq]; exact hx⟩, ⟨⟨x', ?_⟩, hit'.1.at fun o q => (sb.2 it (Ne.symm hne)).trans q, hne, hai, hae⟩, fun b hb => ?_⟩
    · have e1 : ((i + 1 : Nat) : Int) = (i : Int) + 1 := by omega
      rw [e1]; exact he'
    · have hb' : b < s.heap.objs.size := by
        have e' : b = e ∨ b = it := by simpa using hb
        rcases e' with z | z
        · rw [z]; exact hel
        · rw [z]; exact hil
      rw [upd_ne (Nat.ne_of_lt hb')]
      exact (hf b hb).1
  done := by
    intro X hP hw hK hc i pins s σ H E I hf st hg
    subst hP hw hK
    obtain ⟨⟨old, he⟩, hit, hne, hai, hae⟩ := st
    obtain ⟨xs, hq, hx⟩ := hg
    obtain ⟨its, rv, p, hz⟩ := I.tuple hq
    obtain ⟨f0, f1, f2, f3, f4, f5⟩ := hf it (by simp)
    have hl := rv.length
    have e : i = its.toArray.size := by simp; omega
    subst e
    exact wpAny_pyNext_enum_endD (Draws.tuple (A := X.A.in1) (show X.A.in1.handled = none from I.ok.hd hc) it a hai its.toArray) he ⟨hit, p⟩ fun h' eb => ⟨rfl, I.turned (t' := s.toks) (fun b o hb q => eb b o hb q) f0 f1 f3 f4 f5⟩
  self := fun A i s Q E st h => let ⟨⟨_, he⟩, _⟩ := st; wpAny_pyIter_enum he h

def iEnumT (K : PySem.W.Frag) (ta : TA) : TI := fun σ H R => ta σ H fun vs H1 => ∃ a xs, vs = [.ref a] ∧ ((SqL K H1 a xs ∧ R (Ite K a) H1) ∨ (SqT K H1 a xs ∧ R (IteT K a) H1))
theorem pi_enumT {X : Cx} {e : Expr} {ta : TA} {p pos tpos : Pos} {elts : List Expr} {kk : Nat} (hg : Gl X "enumerate") (hm : X.mg "enumerate" = none) (ha : PA X [e] ta) (hs : starEach [e] X.env = [(false, eval e X.env)] := by rfl) :
    PI X (.Tuple elts kk tpos) (.Call (.Name "enumerate" p) [e] [] pos) (iEnumT X.K ta) := by
  refine ⟨fun pins s σ H R I h => ?_⟩
  refine Call_ (ld_blt I hg hm boot_enumerate (PyProof.Rows.callWith_type1 (thn (ha.run pos pins s σ H _ I h) fun us s1 ⟨vs, H1, I1, r1, q1⟩ => ?_) hs rfl))
  obtain ⟨a, xs, ex, q⟩ := q1
  subst ex
  cases r1 with
  | cons r rr =>
    cases rr
    cases r
    have fresh : ∀ b, b ∈ [s1.heap.objs.size + 1, s1.heap.objs.size] → FpOk X pins H1 b := fun b hb => by
      have e' : b = s1.heap.objs.size + 1 ∨ b = s1.heap.objs.size := by simpa using hb
      have hle : s1.heap.objs.size ≤ b := by
        rcases e' with z | z
        · rw [z]; exact Nat.le_add_right _ _
        · rw [z]; exact Nat.le_refl _
      exact I1.fpOk hle (I1.hok.fresh hle)
    rcases q with ⟨hq, q⟩ | ⟨hq, q⟩
    · obtain ⟨its, rv, p', hz⟩ := I1.list hq
      refine call_enumerate_list p'.isList fun h' he hit hsz hk => wpAny_pyIter_enum he ?_
      have I2 : Inv X pins σ H1 { s1 with heap := h' } := I1.kept (t' := s1.toks) hk
      exact ⟨s1.heap.objs.size + 1, [s1.heap.objs.size + 1, s1.heap.objs.size], _, _, H1, rfl, I2, turn_enum a (s1.heap.objs.size + 1) s1.heap.objs.size, ⟨⟨.none, he⟩, hit, Nat.succ_ne_self _⟩, fresh, q⟩
    · obtain ⟨its, rv, p', hz⟩ := I1.tuple hq
      obtain ⟨oa, hoa, _⟩ := id p'
      have la : a < s1.heap.objs.size := Heap.lt_size hoa
      refine call_enumerate_tuple (show s1.heap.IsTuple a its.toArray from p') fun h' he hit hsz hk => wpAny_pyIter_enum he ?_
      have I2 : Inv X pins σ H1 { s1 with heap := h' } := I1.kept (t' := s1.toks) hk
      exact ⟨s1.heap.objs.size + 1, [s1.heap.objs.size + 1, s1.heap.objs.size], _, _, H1, rfl, I2, turn_enumT a (s1.heap.objs.size + 1) s1.heap.objs.size, ⟨⟨.none, he⟩, hit, Nat.succ_ne_self _, Nat.ne_of_lt la, Nat.ne_of_lt (Nat.lt_succ_of_lt la)⟩, fresh, q⟩
/-! ### lists and tuples alike -/
def SqB (K : PySem.W.Frag) (t : Bool) (H : Hp) (a : Addr) (xs : List V) : Prop := match t with
  | false => SqL K H a xs
  | true => SqT K H a xs
def IterB (t : Bool) (h : Heap) (it a : Addr) (i : Nat) : Prop := match t with
  | false => h.IsListIter it a i
  | true => h.IsTupleIter it a i
def IsB (t : Bool) (h : Heap) (a : Addr) (its : Array Value) : Prop := match t with
  | false => h.IsList a its
  | true => h.IsTuple a its
def itObj (t : Bool) (a : Addr) : Obj := match t with
  | false => { cls := .type "list_iterator", data := .fields #[.ref a, .int 0 0] }
  | true => { cls := .type "tuple_iterator", data := .fields #[.ref a, .int 0 0] }
theorem IterB.obj {t : Bool} {h : Heap} {it a : Addr} {i : Nat} (st : IterB t h it a i) : ∃ o, h.get? it = some o ∧ ∀ v, o.data ≠ .cell v := by
  cases t with
  | false => obtain ⟨o, ho, hc, hd⟩ := st; exact ⟨o, ho, fun v q => by rw [hd] at q; cases q⟩
  | true => obtain ⟨o, ho, hc, hd⟩ := st; exact ⟨o, ho, fun v q => by rw [hd] at q; cases q⟩
theorem IterB.at {t : Bool} {h h' : Heap} {it a : Addr} {i : Nat} (st : IterB t h it a i) (k : ∀ o, h.get? it = some o → h'.get? it = some o) : IterB t h' it a i := by
  cases t with
  | false => exact Heap.IsListIter.at st k
  | true => exact Heap.IsTupleIter.at st k
theorem IterB.new {t : Bool} {h : Heap} {it a : Addr} (e : h.get? it = some (itObj t a)) : IterB t h it a 0 := by
  cases t with
  | false => exact ⟨_, e, rfl, rfl⟩
  | true => exact ⟨_, e, rfl, rfl⟩
theorem drawsB {prog : Program} {w : World} {A : Around} (t : Bool) (hh : A.handled = none) (it a : Addr) (hne : a ≠ it) (items : Array Value) :
    Draws prog w A it [it, a] items.size (fun i v => items[i]? = some v) (fun i h => IterB t h it a i ∧ IsB t h a items) := by
  cases t with
  | false => exact Draws.list hh it a hne items
  | true => exact Draws.tuple hh it a hne items
theorem begB (t : Bool) (a : Addr) (items : Array Value) : Begins (.ref a) (itObj t a) fun h => IsB t h a items := by
  cases t with
  | false => exact begins_list a items
  | true => exact begins_tuple a items
theorem IsB.lt {t : Bool} {h : Heap} {a : Addr} {its : Array Value} (p : IsB t h a its) : a < h.objs.size := by
  cases t with
  | false => obtain ⟨o, ho, _⟩ := id p; exact Heap.lt_size ho
  | true => obtain ⟨o, ho, _⟩ := id p; exact Heap.lt_size ho
theorem seqB {X : Cx} {pins : List (Addr × Obj)} {σ : L2.St} {H : Hp} {s : Shared} {t : Bool} {a : Addr} {xs : List V} (I : Inv X pins σ H s) (h : SqB X.K t H a xs) : ∃ its : List Value, Vals xs its ∧ IsB t s.heap a its.toArray ∧ ∀ ys, SqB X.K t H a ys → ys = xs := by
  cases t with
  | false =>
    obtain ⟨its, rv, p, hz⟩ := I.list h
    exact ⟨its, rv, p.isList, fun ys hy => I.list_inj hy h⟩
  | true =>
    obtain ⟨its, rv, p, hz⟩ := I.tuple h
    exact ⟨its, rv, p, fun ys hy => I.tuple_inj hy h⟩
/-- two things, lists or tuples, as they stand at each turn, the items in new pairs -/
def ItzB (K : PySem.W.Frag) (t1 t2 : Bool) (a b : Addr) : It :=
  ⟨fun i H => ∃ (xs ys : List V) (x y : V), SqB K t1 H a xs ∧ SqB K t2 H b ys ∧ xs[i]? = some x ∧ ys[i]? = some y,
    fun i H v H' => ∃ T x y, v = .ref T ∧ H T = none ∧ H' = upd H T (.tup [x, y]) ∧ (∀ xs, SqB K t1 H a xs → xs[i]? = some x) ∧ ∀ ys, SqB K t2 H b ys → ys[i]? = some y,
    fun i H => ∃ xs ys : List V, SqB K t1 H a xs ∧ SqB K t2 H b ys ∧ i ≤ xs.length ∧ i ≤ ys.length ∧ (i = xs.length ∨ i = ys.length)⟩
theorem turn_zipB {P : Program} {w : World} {K : PySem.W.Frag} {elts : List Expr} {kk : Nat} {tpos : Pos} {t1 t2 : Bool} {a b z TI TO i1 i2 : Addr} (D : ZipSep2 z TI TO i1 i2 [i1, a] [i2, b]) (n1 : a ≠ i1) (n2 : b ≠ i2) :
    Turn P w K (.Tuple elts kk tpos) (ItzB K t1 t2 a b) [z, TI, TO, i1, i2] z (fun i h => IsZip h z TI TO .none ∧ IsPair h TI (.ref i1) (.ref i2) ∧ (∃ x y, IsPair h TO x y) ∧ IterB t1 h i1 a i ∧ IterB t2 h i2 b i) where
  mem := by simp
  obj := fun i h st c hc => by
    obtain ⟨hz, hTI, ⟨x, y, hTO⟩, h1, h2⟩ := st
    have e' : c = z ∨ c = TI ∨ c = TO ∨ c = i1 ∨ c = i2 := by simpa using hc
    rcases e' with q | q | q | q | q
    · rw [q]; exact ⟨_, hz, fun v q => nomatch q⟩
    · rw [q]; exact ⟨_, hTI, fun v q => nomatch q⟩
    · rw [q]; exact ⟨_, hTO, fun v q => nomatch q⟩
    · rw [q]; exact h1.obj
    · rw [q]; exact h2.obj
  keep := fun i h h' st k => by
    obtain ⟨hz, hTI, ⟨x, y, hTO⟩, h1, h2⟩ := st
    exact ⟨k z (by simp) _ hz, k TI (by simp) _ hTI, ⟨x, y, k TO (by simp) _ hTO⟩, h1.at fun o q => k i1 (by simp) o q, h2.at fun o q => k i2 (by simp) o q⟩
  item := by
    intro X hP hw hK hc i pins s σ H E I hf st hg
    subst hP hw hK
    obtain ⟨hz, hTI, ⟨x0, y0, hTO⟩, h1, h2⟩ := st
    obtain ⟨xs, ys, x, y, hqx, hqy, hx, hy⟩ := hg
    obtain ⟨its, rv, p, inj1⟩ := seqB I hqx
    obtain ⟨its2, rv2, p2, inj2⟩ := seqB I hqy
    obtain ⟨u, hu, ru⟩ := rv.get hx
    obtain ⟨u2, hu2, ru2⟩ := rv2.get hy
    have hzl : z < s.heap.objs.size := Heap.lt_size hz
    have q1 : i < its.toArray.size := by have := (List.getElem?_eq_some_iff.mp hu).1; simpa using this
    have q2 : i < its2.toArray.size := by have := (List.getElem?_eq_some_iff.mp hu2).1; simpa using this
    refine wpAny_pyNext_zipD2_item D (drawsB (A := X.A.in1) t1 (show X.A.in1.handled = none from I.ok.hd hc) i1 a n1 its.toArray) (drawsB (A := X.A.in1) t2 (show X.A.in1.handled = none from I.ok.hd hc) i2 b n2 its2.toArray) hz hTI hTO ⟨h1, p⟩ ⟨h2, p2⟩ q1 q2 fun x' x2' h' tk hP1 hP2 z' TO' st1' st2' hT hsz hk => ?_
    have ex1 : x' = u := by
      have e1 : its.toArray[i]? = some u := by simpa using hu
      rw [e1] at hP1
      exact (Option.some.inj hP1).symm
    have ex2 : x2' = u2 := by
      have e1 : its2.toArray[i]? = some u2 := by simpa using hu2
      rw [e1] at hP2
      exact (Option.some.inj hP2).symm
    subst ex1 ex2
    refine ⟨_, rfl, wpAny_letOwnedTupleGo_zip (s := { s with heap := h', toks := tk }) z' fun h'' z'' sb => ?_⟩
    have hT2 : h''.get? s.heap.objs.size = some { cls := .type "tuple", data := .seq #[x', x2'] } := (sb.2 _ (Nat.ne_of_gt hzl)).trans hT
    have new : ObjOk X.prog X.w (upd H s.heap.objs.size (.tup [x, y])) h'' s.heap.objs.size (.tup [x, y]) :=
      ⟨by show 2 ≤ sizeLine; decide, [x', x2'], .cons ru (.cons ru2 .nil), ⟨_, hT2, rfl, _, rfl⟩⟩
    have I1 : Inv X pins σ (upd H s.heap.objs.size (.tup [x, y])) { s with heap := h'', toks := tk } :=
      I.turnedNew (t' := tk) (ch := [z, TI, TO, i1, i2]) (fun c o hb q => (sb.2 c (fun q' => hb (by simp [q']))).trans (hk c o (fun q' => hb (by simp [q'])) (fun q' => hb (by simp [q'])) (fun q' => hb (by simp [q'])) (fun q' => hb (by simp [q'])) q)) hf (Nat.le_refl _) new
    refine ⟨.ref s.heap.objs.size, _, I1, rfl, ⟨_, x, y, rfl, I.hok.fresh (Nat.le_refl _), rfl, fun l hl => by rw [inj1 l hl]; exact hx, fun l hl => by rw [inj2 l hl]; exact hy⟩, ⟨z'', ?_, ⟨x', x2', ?_⟩, ?_, ?_⟩, fun c hcm => ?_⟩
    · exact (sb.2 _ D.TIz).trans (hk _ _ D.TIz D.TITO D.TIi1 D.TIi2 hTI)
    · exact (sb.2 _ D.TOz).trans TO'
    · exact st1'.1.at fun o q => (sb.2 _ (Ne.symm D.zi1)).trans q
    · exact st2'.1.at fun o q => (sb.2 _ (Ne.symm D.zi2)).trans q
    · have hlt : c < s.heap.objs.size := by
        have e' : c = z ∨ c = TI ∨ c = TO ∨ c = i1 ∨ c = i2 := by simpa using hcm
        rcases e' with q | q | q | q | q
        · rw [q]; exact hzl
        · rw [q]; exact Heap.lt_size hTI
        · rw [q]; exact Heap.lt_size hTO
        · rw [q]; obtain ⟨_, e1, _⟩ := h1.obj; exact Heap.lt_size e1
        · rw [q]; obtain ⟨_, e2, _⟩ := h2.obj; exact Heap.lt_size e2
      rw [upd_ne (Nat.ne_of_lt hlt)]
      exact (hf c hcm).1
  done := by
    intro X hP hw hK hc i pins s σ H E I hf st hg
    subst hP hw hK
    obtain ⟨hz, hTI, ⟨x0, y0, hTO⟩, h1, h2⟩ := st
    obtain ⟨xs, ys, hqx, hqy, l1, l2, hend⟩ := hg
    obtain ⟨its, rv, p, inj1⟩ := seqB I hqx
    obtain ⟨its2, rv2, p2, inj2⟩ := seqB I hqy
    have e1 := rv.length
    have e2 := rv2.length
    have s1 : its.toArray.size = its.length := by simp
    have s2 : its2.toArray.size = its2.length := by simp
    exact wpAny_pyNext_zipD2_end D (drawsB (A := X.A.in1) t1 (show X.A.in1.handled = none from I.ok.hd hc) i1 a n1 its.toArray) (drawsB (A := X.A.in1) t2 (show X.A.in1.handled = none from I.ok.hd hc) i2 b n2 its2.toArray) hz hTI hTO ⟨h1, p⟩ ⟨h2, p2⟩ (by omega) (by omega) (by omega) fun h' tk hk => ⟨rfl, I.turnedL (t' := tk) (ch := [z, TI, TO, i1, i2]) (fun c o hb q =>
      hk c o (fun q' => hb (by simp [q'])) (fun q' => hb (by simp [q'])) (fun q' => hb (by simp [q'])) (fun q' => hb (by simp [q'])) q) hf⟩
  self := fun A i s Q E st h => wpAny_pyIter_zip st.1 h
def iZipB (K : PySem.W.Frag) (ta : TA) : TI := fun σ H R => ta σ H fun vs H1 => ∃ t1 t2 a b xs ys, vs = [.ref a, .ref b] ∧ SqB K t1 H1 a xs ∧ SqB K t2 H1 b ys ∧ R (ItzB K t1 t2 a b) H1
theorem pi_zipB {X : Cx} {e e2 : Expr} {ta : TA} {p pos tpos : Pos} {elts : List Expr} {kk : Nat} (hg : Gl X "zip") (hm : X.mg "zip" = none) (ha : PA X [e, e2] ta)
    (hs : starEach [e, e2] X.env = (false, eval e X.env) :: starEach [e2] X.env := by rfl) (hpl : (backTo pos (starEach [e2] X.env)).any (·.1) = false := by rfl) :
    PI X (.Tuple elts kk tpos) (.Call (.Name "zip" p) [e, e2] [] pos) (iZipB X.K ta) := by
  refine ⟨fun pins s σ H R I h => ?_⟩
  refine Call_ (ld_blt I hg hm PyProof.Rows.boot_zip (PyProof.Rows.callWith_type1 (thn (ha.run pos pins s σ H _ I h) fun us s1 ⟨vs, H1, I1, r1, q1⟩ => ?_) hs hpl))
  obtain ⟨t1, t2, a, b, xs, ys, ex, hqx, hqy, q⟩ := q1
  subst ex
  cases r1 with
  | cons r rr =>
    cases rr with
    | cons r' rr =>
      cases rr
      cases r
      cases r'
      have fresh5 : ∀ c, c ∈ [s1.heap.objs.size + 4, s1.heap.objs.size + 2, s1.heap.objs.size + 3, s1.heap.objs.size, s1.heap.objs.size + 1] → FpOk X pins H1 c := fun c hcm => by
        have e' : c = s1.heap.objs.size + 4 ∨ c = s1.heap.objs.size + 2 ∨ c = s1.heap.objs.size + 3 ∨ c = s1.heap.objs.size ∨ c = s1.heap.objs.size + 1 := by simpa using hcm
        have hle : s1.heap.objs.size ≤ c := by
          rcases e' with z | z | z | z | z
          · rw [z]; exact Nat.le_add_right _ _
          · rw [z]; exact Nat.le_add_right _ _
          · rw [z]; exact Nat.le_add_right _ _
          · rw [z]; exact Nat.le_refl _
          · rw [z]; exact Nat.le_add_right _ _
        exact I1.fpOk hle (I1.hok.fresh hle)
      obtain ⟨its, rv, p1, _⟩ := seqB I1 hqx
      obtain ⟨its2, rv2, p2, _⟩ := seqB I1 hqy
      refine zip_begins2 (begB t1 a its.toArray) (begB t2 b its2.toArray) p1 p2 fun h' hz hTI hTO h1 h2 hsz hk => wpAny_pyIter_zip hz ?_
      have I2 : Inv X pins σ H1 { s1 with heap := h' } := I1.kept (t' := s1.toks) hk
      have la := p1.lt
      have lb := p2.lt
      have sep := zip_sep2 (N := s1.heap.objs.size) (fp1 := [a]) (fp2 := [b]) (fun c hc => by rw [List.mem_singleton.mp hc]; exact la) (fun c hc => by rw [List.mem_singleton.mp hc]; exact lb)
      exact ⟨s1.heap.objs.size + 4, [s1.heap.objs.size + 4, s1.heap.objs.size + 2, s1.heap.objs.size + 3, s1.heap.objs.size, s1.heap.objs.size + 1], _, _, H1, rfl, I2, turn_zipB sep (Nat.ne_of_lt la) (Nat.ne_of_lt (Nat.lt_succ_of_lt lb)), ⟨hz, hTI, ⟨_, _, hTO⟩, .new h1, .new h2⟩, fresh5, q⟩
end Fx
namespace Fx
open PySem L2 PyProof.Rows
/-! ### enumerate, zip -/
def enumD (ds : List D) : List D := ds.zipIdx.map fun p => .tup [.int (p.2 : Nat), p.1]
def zipD (ds es : List D) : List D := (ds.zip es).map fun p => .tup [p.1, p.2]
theorem enumD_length {ds : List D} : (enumD ds).length = ds.length := by
  unfold enumD
  rw [List.length_map, List.length_zipIdx]
theorem zipD_length {ds es : List D} : (zipD ds es).length = min ds.length es.length := by
  unfold zipD
  rw [List.length_map, List.length_zip]
theorem enumD_get {ds : List D} {i : Nat} {d : D} (h : (enumD ds)[i]? = some d) : ∃ x, ds[i]? = some x ∧ d = .tup [.int (i : Nat), x] := by
  unfold enumD at h
  rw [List.getElem?_map, List.getElem?_zipIdx] at h
  cases e : ds[i]? with
  | none => rw [e] at h; cases h
  | some x =>
    rw [e] at h
    cases h
    exact ⟨x, rfl, by rw [Nat.zero_add]⟩
theorem zipD_get {ds es : List D} {i : Nat} {d : D} (h : (zipD ds es)[i]? = some d) : ∃ x y, ds[i]? = some x ∧ es[i]? = some y ∧ d = .tup [x, y] := by
  unfold zipD at h
  rw [List.getElem?_map] at h
  cases e : (ds.zip es)[i]? with
  | none => rw [e] at h; cases h
  | some p =>
    rw [e] at h
    cases h
    obtain ⟨h1, h2⟩ := List.getElem?_zip_eq_some.mp e
    exact ⟨p.1, p.2, h1, h2, rfl⟩
section
variable {K : PySem.W.Frag} {M : MS} {H : Hp}
theorem wk_enum {a : Addr} {xs : List V} {ds : List D} (m : MOk M H) (h : (Rd H a (.lst xs) ∧ ¬ M a) ∨ (∀ H, SqL K H a xs)) (l : RpL K M H xs ds) : Wk K M H (Ite K a) (enumD ds) where
  go := fun i d M' H' m' ev e => by
    obtain ⟨d0, e0, rfl⟩ := enumD_get e
    obtain ⟨v, hv, q⟩ := l.get e0
    refine ⟨⟨xs, v, SqL.ev h ev, hv⟩, fun x H'' y => ?_⟩
    obtain ⟨T, x0, rfl, nT, rfl, f⟩ := y
    have e1 := f xs (SqL.ev h ev)
    rw [hv] at e1
    cases e1
    exact ⟨same_upd nT, new_tup m' nT (.cons (.int _) (.cons (q.move m ev) .nil))⟩
  stop := fun M' H' m' ev => ⟨xs, SqL.ev h ev, by rw [l.length, enumD_length]; exact Nat.le_refl _⟩
theorem wk_enumT {a : Addr} {xs : List V} {ds : List D} (m : MOk M H) (h : Rd H a (.tup xs) ∨ (∀ H, SqT K H a xs)) (l : RpL K M H xs ds) : Wk K M H (IteT K a) (enumD ds) where
  go := fun i d M' H' m' ev e => by
    obtain ⟨d0, e0, rfl⟩ := enumD_get e
    obtain ⟨v, hv, q⟩ := l.get e0
    refine ⟨⟨xs, v, SqT.ev m h ev, hv⟩, fun x H'' y => ?_⟩
    obtain ⟨T, x0, rfl, nT, rfl, f⟩ := y
    have e1 := f xs (SqT.ev m h ev)
    rw [hv] at e1
    cases e1
    exact ⟨same_upd nT, new_tup m' nT (.cons (.int _) (.cons (q.move m ev) .nil))⟩
  stop := fun M' H' m' ev => ⟨xs, SqT.ev m h ev, by rw [l.length, enumD_length]⟩
theorem wk_zipB {t1 t2 : Bool} {a b : Addr} {xs ys : List V} {ds es : List D} (m : MOk M H) (h : ∀ M' H', MOk M' H' → Ev M H M' H' → SqB K t1 H' a xs) (l : RpL K M H xs ds) (h' : ∀ M' H', MOk M' H' → Ev M H M' H' → SqB K t2 H' b ys) (l' : RpL K M H ys es) : Wk K M H (ItzB K t1 t2 a b) (zipD ds es) where
  go := fun i d M' H' m' ev e => by
    obtain ⟨d0, d1, e0, e1, rfl⟩ := zipD_get e
    obtain ⟨v, hv, q⟩ := l.get e0
    obtain ⟨u, hu, q'⟩ := l'.get e1
    refine ⟨⟨xs, ys, v, u, h _ _ m' ev, h' _ _ m' ev, hv, hu⟩, fun x H'' y => ?_⟩
    obtain ⟨T, x0, y0, rfl, nT, rfl, f, f'⟩ := y
    have z1 := f xs (h _ _ m' ev)
    have z2 := f' ys (h' _ _ m' ev)
    rw [hv] at z1
    rw [hu] at z2
    cases z1
    cases z2
    exact ⟨same_upd nT, new_tup m' nT (.cons (q.move m ev) (.cons (q'.move m ev) .nil))⟩
  stop := fun M' H' m' ev => ⟨xs, ys, h _ _ m' ev, h' _ _ m' ev, by rw [l.length, zipD_length]; omega, by rw [l'.length, zipD_length]; omega, by rw [l.length, l'.length, zipD_length]; omega⟩
theorem Rp.walkL {v : V} {ds : List D} (q : Rp K M H v (.lst ds)) : ∃ a xs, v = .ref a ∧ SqL K H a xs ∧ ((Rd H a (.lst xs) ∧ ¬ M a) ∨ (∀ H, SqL K H a xs)) ∧ RpL K M H xs ds := by
  cases q with
  | lst h n l => exact ⟨_, _, rfl, .of h, .inl ⟨.of h, n⟩, l⟩
theorem Rp.walkZ {v : V} {ds : List D} (q : Rp K M H v (.fz ds)) : ∃ a xs, v = .ref a ∧ SqL K H a xs ∧ ((Rd H a (.lst xs) ∧ ¬ M a) ∨ (∀ H, SqL K H a xs)) ∧ RpL K M H xs ds := by
  cases q with
  | fz h n l => exact ⟨_, _, rfl, .inl h, .inl ⟨h, n⟩, l⟩
  | fzK h l => exact ⟨_, _, rfl, h H, .inr h, l⟩
theorem Rp.walkT {v : V} {ds : List D} (q : Rp K M H v (.tup ds)) : ∃ a xs, v = .ref a ∧ SqT K H a xs ∧ (Rd H a (.tup xs) ∨ (∀ H, SqT K H a xs)) ∧ RpL K M H xs ds := by
  cases q with
  | tup h l => exact ⟨_, _, rfl, .of h, .inl (.of h), l⟩
  | tupK h l => exact ⟨_, _, rfl, h.sq H, .inr h.sq, l⟩
end
section
variable {X : Cx} {B : Bs} {W : WX} {e e2 : Expr} {f g : F D} {p pos tpos : Pos} {elts : List Expr} {kk : Nat}
/-- a list or a tuple, by what is in it -/
def seqD : D → Option (List D)
  | .lst ds => some ds
  | .fz ds => some ds
  | .tup ds => some ds
  | _ => none
theorem Rp.walkB {K : PySem.W.Frag} {M : MS} {H : Hp} {v : V} {d : D} {ds : List D} (m : MOk M H) (q : Rp K M H v d) (e : seqD d = some ds) : ∃ t a xs, v = .ref a ∧ SqB K t H a xs ∧ (∀ M' H', MOk M' H' → Ev M H M' H' → SqB K t H' a xs) ∧ RpL K M H xs ds := by
  cases d with
  | lst es =>
    cases e
    obtain ⟨a, xs, rfl, h1, h2, l⟩ := q.walkL
    exact ⟨false, a, xs, rfl, h1, fun M' H' m' ev => SqL.ev h2 ev, l⟩
  | fz es =>
    cases e
    obtain ⟨a, xs, rfl, h1, h2, l⟩ := q.walkZ
    exact ⟨false, a, xs, rfl, h1, fun M' H' m' ev => SqL.ev h2 ev, l⟩
  | tup es =>
    cases e
    obtain ⟨a, xs, rfl, h1, h2, l⟩ := q.walkT
    exact ⟨true, a, xs, rfl, h1, fun M' H' m' ev => SqT.ev m h2 ev, l⟩
  | _ => cases e
def enumF (f : F D) : F (List D) := fun s => (f s).bind fun d s1 => match seqD d with
  | some ds => .ok (enumD ds) s1
  | none => .no
theorem si_enum (hK : X.K = B.K) (hg : Gl X "enumerate") (hm : X.mg "enumerate" = none) (he : SE X B W e f) (hs : starEach [e] X.env = [(false, eval e X.env)] := by rfl) : SI X B W (.Tuple elts kk tpos) (.Call (.Name "enumerate" p) [e] [] pos) (enumF f) := by
  refine PI.imp (pi_enumT hg hm (pa_cons he pa_nil hs) hs) fun σ H Q ⟨M, s, r, p⟩ => ⟨M, s, r, PostI.bind p fun d s1 M1 H1 v r1 q1 ev1 p1 => ?_⟩
  cases d with
  | lst ds =>
    obtain ⟨a, xs, rfl, h1, h2, l⟩ := q1.walkL
    refine ⟨a, xs, rfl, .inl ⟨hK ▸ h1, ?_⟩⟩
    rw [hK]
    exact p1.out r1 (wk_enum r1.mo h2 l)
  | fz ds =>
    obtain ⟨a, xs, rfl, h1, h2, l⟩ := q1.walkZ
    refine ⟨a, xs, rfl, .inl ⟨hK ▸ h1, ?_⟩⟩
    rw [hK]
    exact p1.out r1 (wk_enum r1.mo h2 l)
  | tup ds =>
    obtain ⟨a, xs, rfl, h1, h2, l⟩ := q1.walkT
    refine ⟨a, xs, rfl, .inr ⟨hK ▸ h1, ?_⟩⟩
    rw [hK]
    exact p1.out r1 (wk_enumT r1.mo h2 l)
  | _ => exact p1.elim
def zipF (f g : F D) : F (List D) := fun s => (f s).bind fun d s1 => (g s1).bind fun d2 s2 => match seqD d, seqD d2 with
  | some ds, some es => .ok (zipD ds es) s2
  | _, _ => .no
theorem si_zip (hK : X.K = B.K) (hg : Gl X "zip") (hm : X.mg "zip" = none) (he : SE X B W e f) (he2 : SE X B W e2 g) (hs : starEach [e, e2] X.env = (false, eval e X.env) :: starEach [e2] X.env := by rfl) (hpl : (backTo pos (starEach [e2] X.env)).any (·.1) = false := by rfl)
    (hs2 : starEach [e2] X.env = (false, eval e2 X.env) :: starEach [] X.env := by rfl) : SI X B W (.Tuple elts kk tpos) (.Call (.Name "zip" p) [e, e2] [] pos) (zipF f g) := by
  refine PI.imp (pi_zipB hg hm (pa_cons he (pa_cons he2 pa_nil hs2) hs) hs hpl) fun σ H Q ⟨M, s, r, p⟩ => ⟨M, s, r, PostI.bind p fun d s1 M1 H1 v r1 q1 ev1 p1 => ⟨M1, s1, r1, PostI.bind p1 fun d2 s2 M2 H2 u r2 q2 ev2 p2 => ?_⟩⟩
  have q1' := q1.move r1.mo ev2
  split at p2
  · rename_i ds es e1 e2
    obtain ⟨t1, a, xs, rfl, h1, h2, l⟩ := q1'.walkB r2.mo e1
    obtain ⟨t2, b, ys, rfl, h1', h2', l'⟩ := q2.walkB r2.mo e2
    refine ⟨t1, t2, a, b, xs, ys, rfl, hK ▸ h1, hK ▸ h1', ?_⟩
    rw [hK]
    exact p2.out r2 (wk_zipB r2.mo h2 l h2' l')
  · exact p2.elim
/-! ### xs[::-1] -/
theorem Vals.rev {xs : List V} {us : List Value} (h : Vals xs us) : Vals xs.reverse us.reverse := L2.Vals.reverse h
theorem RpL.rev {K : PySem.W.Frag} {M : MS} {H : Hp} : ∀ {vs : List V} {ds : List D}, RpL K M H vs ds → RpL K M H vs.reverse ds.reverse
  | [], [], .nil => .nil
  | _ :: _, _ :: _, .cons q t => by
    rw [List.reverse_cons, List.reverse_cons]
    exact (RpL.rev t).append (.cons q .nil)
def revLF (f : F D) : F (List D) := fun s => (f s).bind fun d s1 => match d with
  | .lst ds => .ok ds.reverse s1
  | .fz ds => .ok ds.reverse s1
  | _ => .no
theorem sn_revL {k : Nat} {p1 p2 p3 : Pos} (hK : X.K = B.K) (he : SE X B W e f) : SN X B W (.Subscript e (.Slice none none (some (.UnaryOp .USub (.Constant (.int 1) k p1) p2)) p3) pos) (revLF f) := by
  refine PE.imp (pe_revL he) fun σ H Q ⟨M, s, r, p⟩ => ⟨M, s, r, PostN.bind p fun d s1 M1 H1 v r1 q1 ev1 p1 => ?_⟩
  split at p1
  · obtain ⟨a, xs, rfl, h1, h2, l⟩ := q1.walkL
    exact ⟨a, xs, rfl, hK ▸ h1, fun q hq => p1.laid r1 hq l.rev⟩
  · obtain ⟨a, xs, rfl, h1, h2, l⟩ := q1.walkZ
    exact ⟨a, xs, rfl, hK ▸ h1, fun q hq => p1.laid r1 hq l.rev⟩
  · exact p1.elim
end
end Fx

set_option Elab.async false
set_option linter.all false
set_option maxRecDepth 100000
namespace Fx
open PySem L2 PyProof.Rows
/-! ### t[::-1], t a tuple -/
theorem adjust_rev (n : Nat) : Builtin.Slice.sliceAdjust none none (-1) (n : Int) = ((n : Int) - 1, -1) := by
  unfold Builtin.Slice.sliceAdjust
  rfl
theorem places_rev (n : Nat) : Builtin.Slice.slicePlaces ((n : Int) - 1) (-1) (-1) = n := by
  unfold Builtin.Slice.slicePlaces
  rw [if_neg (show ¬ ((-1 : Int) > 0) by decide)]
  have e : ((n : Int) - 1 - -1 - 1) / (- -1) = (n : Int) - 1 := by
    rw [show (- -1 : Int) = 1 by decide, Int.ediv_one]
    omega
  rw [e]
  split <;> omega
theorem fm_congr {α β : Type} {f g : α → Option β} : ∀ {l : List α}, (∀ x ∈ l, f x = g x) → l.filterMap f = l.filterMap g
  | [], _ => rfl
  | x :: l, h => by
    have ih := fm_congr (l := l) fun y hy => h y (List.mem_cons_of_mem _ hy)
    rw [List.filterMap_cons, List.filterMap_cons, h x List.mem_cons_self, ih]
theorem pick_rev (xs : Array Value) : ((List.range xs.size).filterMap fun (m : Nat) => xs[((xs.size : Int) - 1 + (m : Int) * -1).toNat]?).toArray = xs.toList.reverse.toArray := by
  have e : (List.range xs.size).filterMap (fun (m : Nat) => xs[((xs.size : Int) - 1 + (m : Int) * -1).toNat]?) = ((List.range xs.size).map fun k => xs.size - 1 - k).filterMap (xs[·]?) := by
    rw [List.filterMap_map]
    refine fm_congr fun m hm => ?_
    have := List.mem_range.mp hm
    show xs[((xs.size : Int) - 1 + (m : Int) * -1).toNat]? = xs[xs.size - 1 - m]?
    have e : ((xs.size : Int) - 1 + (m : Int) * -1).toNat = xs.size - 1 - m := by omega
    rw [e]
  rw [e, PySem.W.krv_range, List.filterMap_reverse, PySem.W.krv_all]
section
variable {prog : Program} {w : World} {A : Around} {E : Value → Shared → Prop} {s : Shared}
theorem applied_rev {sl : Addr} {vs : Value} {n : Nat} {Q : Int × Int × Nat → Shared → Prop} (hs : s.heap.IsSliceOf sl .none .none vs) (ps : IsPart vs (some (-1))) (h : Q ((n : Int) - 1, -1, n) s) : wpAny (model prog w) A (Builtin.Slice.sliceApplied (.ref sl) (pure (n : Int))) Q E s := by
  obtain ⟨os, hos, hcs, hds⟩ := id hs
  unfold Builtin.Slice.sliceApplied Builtin.Slice.sliceFields
  refine wpAny_bind (wpAny_bind (wpAny_field hos hds (x := .none) rfl (wpAny_bind (wpAny_field hos hds (x := .none) rfl (wpAny_bind (wpAny_field hos hds (x := vs) rfl (wpAny_pure ?_)))))))
  refine wpAny_bind (HT.slicePart_ ps ?_)
  show wpAny _ _ (if ((-1 : Int) == 0) = true then _ else _) _ _ s
  rw [if_neg (by decide)]
  refine wpAny_bind (HT.slicePart_ (o := none) .none (wpAny_bind (HT.slicePart_ (o := none) .none (wpAny_bind (wpAny_pure ?_)))))
  show wpAny _ _ (match Builtin.Slice.sliceAdjust none none (-1) (n : Int) with | (lo, hi) => pure (lo, (-1 : Int), Builtin.Slice.slicePlaces lo hi (-1))) _ _ s
  rw [adjust_rev]
  show wpAny _ _ (pure ((n : Int) - 1, (-1 : Int), Builtin.Slice.slicePlaces ((n : Int) - 1) (-1) (-1))) _ _ s
  rw [places_rev]
  exact wpAny_pure h
theorem getItem_tuple_rev {t sl : Addr} {items : Array Value} {vs : Value} {Q : Value → Shared → Prop} (ht : IsTup s.heap t items) (hs : s.heap.IsSliceOf sl .none .none vs) (ps : IsPart vs (some (-1)))
    (h : Q (.ref s.heap.objs.size) { s with heap := s.heap.push { cls := .type "tuple", data := .seq items.toList.reverse.toArray } }) (hsz : items.size ≤ sizeLine) : wpAny (model prog w) A (getItem (.ref t) (.ref sl)) Q E s := by
  have hfit : sizeOk (.seq items.toList.reverse.toArray) := by
    show items.toList.reverse.toArray.size ≤ sizeLine
    rw [List.size_toArray, List.length_reverse, Array.length_toList]
    exact hsz
  obtain ⟨os, hos, hcs, hds⟩ := id hs
  have hTs : s.TypeIs (.ref sl) "slice" := ⟨os, hos, hcs⟩
  unfold getItem
  try with_reducible refine wpAny_holding ?_
  first | refine wpAny_bind (wpAny_pure ?_) | skip
  refine wpAny_bind (wpAny_sequenceKey ht.typeIs (by decide) ?_)
  refine wpAny_bind (wpAny_callSpecial?_slot (name := Str.ofString "__getitem__") ht.typeIs PyProof.Rows.slot_tuple_getitem (wpAny_call_entry PyProof.Rows.slot_tuple_getitem ht.typeIs entry_tuple_getitem ?_ (args_tuple_getitem _ _)))
  show wpAny _ _ (Builtin.Tuple.tupleItemsOf (.ref t) >>= _) _ _ s
  refine wpAny_bind (tupleItemsOf_ ht ?_)
  refine wpAny_bind (wpAny_typeOf hTs ?_)
  rw [if_pos (by decide)]
  refine wpAny_bind (applied_rev hs ps ?_)
  have no : ¬ ((((items.size : Int) - 1) == 0 && (-1 : Int) == 1 && items.size == items.size) = true) := by
    rw [show ((-1 : Int) == 1) = false from rfl, Bool.and_false, Bool.false_and]
    exact Bool.false_ne_true
  show wpAny _ _ (if (((items.size : Int) - 1) == 0 && (-1 : Int) == 1 && items.size == items.size) = true then _ else _) _ _ s
  rw [if_neg no, pick_rev]
  first
    | exact wpAny_bind (m := Builtin.Tuple.tupleExact _) (wpAny_newObj_type (wpAny_pure ⟨_, rfl, wpAny_pure h⟩) hfit)
    | exact wpAny_bind (m := Builtin.Tuple.tupleExact _) (wpAny_newObj_type (wpAny_bind (wpAny_pure (wpAny_pure ⟨_, rfl, wpAny_pure h⟩))) hfit)
    | exact wpAny_bind (wpAny_bind (m := Builtin.Tuple.tupleExact _) (wpAny_newObj_type (wpAny_pure (wpAny_pure ⟨_, rfl, wpAny_pure h⟩)) hfit))
    | exact wpAny_bind (wpAny_bind (m := Builtin.Tuple.tupleExact _) (wpAny_newObj_type (wpAny_pure ⟨_, rfl, wpAny_pure h⟩) hfit))
end
section
variable {X : Cx} {B : Bs} {W : WX} {e : Expr} {f : F D} {pos : Pos}
def tRevT (K : PySem.W.Frag) (te : TE) : TE := fun σ H Q => te σ H fun x H1 => ∃ a xs, x = .ref a ∧ SqT K H1 a xs ∧ ∀ p, H1 p = none → Q (.ref p) (upd H1 p (.tup xs.reverse))
theorem pe_revT {te : TE} {k : Nat} {p1 p2 p3 : Pos} (he : PE X e te) : PE X (.Subscript e (.Slice none none (some (.UnaryOp .USub (.Constant (.int 1) k p1) p2)) p3) pos) (tRevT X.K te) := by
  refine ⟨fun pins s σ H Q I h => Subscript_ (thn (he.run pins s σ H _ I h) fun v s1 ⟨x, H1, I1, r1, a, xs, ex, hx, q⟩ => ?_)⟩
  subst ex
  cases r1
  have hst : PO X (some (.UnaryOp .USub (.Constant (.int 1) k p1) p2)) (tPart (tUn (rU fun i => .int (-i)) (tC (.int 1)))) := po_some (pe_un un_neg pe_int)
  refine wpAny_Slice (thn (po_none.run pins s1 σ H1 (fun o H2 => o = none ∧ H2 = H1) I1 ⟨rfl, rfl⟩) fun vl s2 ⟨l, H2, I2, pl, el, e2⟩ => ?_)
  subst el e2
  refine thn (po_none.run pins s2 σ H2 (fun o H3 => o = none ∧ H3 = H2) I2 ⟨rfl, rfl⟩) fun vu s3 ⟨u, H3, I3, pu, eu, e3⟩ => ?_
  subst eu e3
  refine thn (hst.run pins s3 σ H3 (fun o H4 => o = some (-1) ∧ H4 = H3) I3 ⟨1, rfl, -1, rfl, rfl, rfl⟩) fun vs s4 ⟨o, H4, I4, ps, eo, e4⟩ => ?_
  subst eo e4
  cases pl
  cases pu
  have I5 : Inv X pins σ H4 { s4 with heap := s4.heap.push { cls := .type "slice", data := .fields #[.none, .none, vs] } } := I4.kept (t' := s4.toks) fun b ob q => Heap.get?_push_of_some _ q
  obtain ⟨its, r, ht, hz⟩ := I5.tuple hx
  have hlen := r.length
  show wpAny (model X.prog X.w) X.A (subscriptTail e (.Slice none none (some (.UnaryOp .USub (.Constant (.int 1) k p1) p2)) p3) (.ref a) (.ref s4.heap.objs.size)) (EP X pins σ Q) X.xe { s4 with heap := s4.heap.push { cls := .type "slice", data := .fields #[.none, .none, vs] } }
  refine tail_any (ops := [.ref a, .ref s4.heap.objs.size]) ht.typeIs PyProof.Rows.slot_tuple_getitem.lookup ?_ (by with_unfolding_all rfl)
  refine getItem_tuple_rev ht (Heap.IsSliceOf.new _ .none .none vs) ps ?_ (by rw [List.size_toArray]; omega)
  exact ⟨.ref _, _, I5.laid (t' := s4.toks) (o := .tup xs.reverse) (fun b ob q => Heap.get?_push_of_some _ q) (Nat.le_refl _) ⟨by rw [List.length_reverse]; exact hz, _, Vals.rev r, IsTup.new _ _⟩, rfl, q _ (I5.hok.fresh (Nat.le_refl _))⟩
def revTF (f : F D) : F D := fun s => (f s).bind fun d s1 => match d with
  | .tup ds => .ok (.tup ds.reverse) s1
  | _ => .no
theorem se_revT {k : Nat} {p1 p2 p3 : Pos} (hK : X.K = B.K) (he : SE X B W e f) : SE X B W (.Subscript e (.Slice none none (some (.UnaryOp .USub (.Constant (.int 1) k p1) p2)) p3) pos) (revTF f) := by
  refine PE.imp (pe_revT he) fun σ H Q ⟨M, s, r, p⟩ => ⟨M, s, r, Post.bind p fun d s1 M1 H1 v r1 q1 ev1 p1 => ?_⟩
  split at p1
  · obtain ⟨a, xs, rfl, h1, h2, l⟩ := q1.walkT
    exact ⟨a, xs, rfl, hK ▸ h1, fun q hq => p1.grow r1 (same_upd hq) (new_tup r1.mo hq l.rev)⟩
  · exact p1.elim
end
end Fx

set_option Elab.async false
set_option linter.all false
set_option maxRecDepth 100000
namespace Fx
open PySem L2 PyProof.Rows
/-! ### own[i] op= e -/
section
variable {X : Cx} {B : Bs} {W : WX} {e : Expr} {f g : F D} {pos : Pos}
def rGetN (K : PySem.W.Frag) : V → V → Hp → VK → Prop := fun x y H Q => ∃ p xs j v, x = .ref p ∧ y = .int j ∧ SqL K H p xs ∧ 0 ≤ j ∧ xs[j.toNat]? = some v ∧ Q v H
theorem get_list : PGet X (rGetN X.K) := by
  intro pins s σ H o i ov iv Q I ro ri h
  obtain ⟨p, xs, j, z, rfl, rfl, hq, h0, he, q⟩ := h
  cases ro
  obtain ⟨t, rfl⟩ := ri
  obtain ⟨its, r, pl, hz⟩ := I.list hq
  obtain ⟨w, ew, rw'⟩ := r.get he
  have hlt := (List.getElem?_eq_some_iff.mp he).1
  rw [sizeLine_eq] at hz
  exact wpAny_getItem_list pl.isList h0 (by omega) (by simpa using ew) ⟨z, H, I, rw', q⟩
/-- an augmented operator, on data -/
def IpD (X : Cx) (K : PySem.W.Frag) (op : Operator) (o : D → D → Option D) : Prop := ∃ r : TIp, PIp X op r ∧ Op2 K r o
def iaddD : D → D → Option D
  | .int i, .int j => some (.int (i + j))
  | _, _ => none
def isubD : D → D → Option D
  | .int i, .int j => some (.int (i - j))
  | _, _ => none
theorem ip_addD {K : PySem.W.Frag} : IpD X K .Add iaddD := ⟨_, ip_add, fun x y d e M H v u Q m qx qy k => by
  unfold iaddD at e
  split at e
  · cases e
    cases qx
    cases qy
    exact ⟨_, _, rfl, rfl, k _ H same_rfl (.int _)⟩
  · cases e⟩
theorem ip_subD {K : PySem.W.Frag} : IpD X K .Sub isubD := ⟨_, ip_sub, fun x y d e M H v u Q m qx qy k => by
  unfold isubD at e
  split at e
  · cases e
    cases qx
    cases qy
    exact ⟨_, _, rfl, rfl, k _ H same_rfl (.int _)⟩
  · cases e⟩
def ownPutAt (s : List Sl) (i n : Nat) (z : D) : Option (List Sl) := match ownAt s i with
  | some ds => if n < ds.length then ownPut s i (ds.set n z) else none
  | none => none
/-- own[i] op= e -/
def augIxG (i : Nat) (o : D → D → Option D) (g f : F D) : G := fun s => match ownAt s i with
  | none => .no
  | some _ => (g s).out fun j s1 => match j, ownAt s1 i with
    | .int j, some ds => if 0 ≤ j then match ds[j.toNat]? with
      | some x => (f s1).out fun y s2 => match o x y with
        | some z => match ownPutAt s2 i j.toNat z with
          | some s3 => .nx s3
          | none => .no
        | none => .no
      | none => .no
      else .no
    | _, _ => .no
theorem ss_augIx (i : Nat) {x : Str} {e' : Expr} {p' tpos : Pos} {op : Operator} {o : D → D → Option D} (hK : X.K = B.K) (ho : IpD X B.K op o) (hg : SE X B W e' g) (he : SE X B W e f) (hN : X.N[i]? = some x := by rfl) (hv : Vis X.env.scope x := by first | exact Or.inl rfl | exact Or.inr (Or.inl rfl) | exact Or.inr (Or.inr rfl))
    (hd : (x == ("__debug__" : Str)) = false := by decide) (hcd : (x == ("__classdict__" : Str)) = false := by decide) (ha : ∀ ov iv new, augStore e' ov iv new = (do holding [new, ov, iv] (setItem ov iv new); release [new, ov, iv] []; pure Flow.next) := by intros; rfl) :
    SS X B W (.AugAssign (.Subscript (.Name x p') e' tpos) op e pos) (augIxG i o g f) := by
  obtain ⟨ri, hr, h2⟩ := ho
  refine PS.imp (L2.ps_augS (pe_var hN hv hd hcd) hg get_list he hr set_list ha) fun E σ H ⟨M, s, r, p⟩ => ?_
  unfold augIxG at p
  split at p
  · exact p.elim
  · rename_i es0 e0
    obtain ⟨a, xs0, e1, hq0, _⟩ := ownAt.run r e0
    refine ⟨_, e1, M, s, r, PostS.bind p fun j s1 M1 H1 w r1 q1 ev1 p1 => ?_⟩
    split at p1
    · rename_i j ds e2
      cases q1
      split at p1
      · rename_i h0
        split at p1
        · rename_i x0 ex
          obtain ⟨a1, xs, e3, hq, hx⟩ := ownAt.run r1 e2
          rw [e1] at e3
          cases e3
          obtain ⟨v0, ev0, q0⟩ := hx.get ex
          refine ⟨a, xs, j, v0, rfl, rfl, hK ▸ hq, h0, ev0, M1, s1, r1, PostS.bind p1 fun y s2 M2 H2 u r2 q2 ev2 p2 => ?_⟩
          split at p2
          · rename_i z hz
            refine h2 x0 y z hz M2 H2 v0 u _ r2.mo (q0.move r1.mo ev2) q2 fun w H' sm qw => ?_
            have r3 := r2.grow sm
            have p3 := PostS.later p2 (.same sm)
            split at p3
            · rename_i s3 e4
              obtain ⟨ds2, n1, e5⟩ : ∃ ds2, j.toNat < ds2.length ∧ ownPut s2 i (ds2.set j.toNat z) = some s3 ∧ ownAt s2 i = some ds2 := by
                unfold ownPutAt at e4
                split at e4
                · rename_i ds2 e6
                  split at e4
                  · rename_i hlt
                    exact ⟨ds2, hlt, e4, e6⟩
                  · cases e4
                · cases e4
              obtain ⟨e5, e6⟩ := e5
              obtain ⟨a2, xs2, es2, e7, e8, h7, h8, h9, _⟩ := ownPut.run r3 e5
              rw [e6] at e7
              cases e7
              rw [e1] at e8
              cases e8
              obtain ⟨r4, ev4⟩ := ownPut.upd r3 e5 e1 (RpL.set qw j.toNat h9)
              refine ⟨a, xs2, j, j.toNat, rfl, rfl, h7, ev_ixN h0 (by rw [h9.length]; omega), p3 σ _ M2 r4 ev4⟩
            · exact p3.elim
          · exact p2.elim
        · exact p1.elim
      · exact p1.elim
    · exact p1.elim
/-! ### isinstance(e, C), C a class of one's own -/
def baseTys : List String := ["NoneType", "bool", "int", "str", "list", "tuple"]
/-- an instance of the class at C tells its class -/
structure InsT (K : PySem.W.Frag) (C : Addr) : Prop where
  cl : Cls K C
  a : PySem.W.findIn K (.ref C) "__class__" = some (some (.builtin "object.__class__"))
  b : PySem.W.specialIn K (.builtin "object.__class__") "__get__" = some (some (.builtin "getset_descriptor.__get__"))
  c : PySem.W.takesIn K (.builtin "object.__class__") = some true
  d : PySem.W.mroIn K C (.type "object") = some true
structure IsiC (K : PySem.W.Frag) (mg : Str → Option Value) (cn : Str) (yes no : List Str) : Prop where
  ex : ∃ C, mg cn = some (.ref C) ∧ (∀ n ∈ yes, ∃ D, ClsAt K n D ∧ InsT K D ∧ PySem.W.kitOne K (.ref D) (.ref C) = some true) ∧ (∀ n ∈ no, ∃ D, ClsAt K n D ∧ InsT K D ∧ PySem.W.kitOne K (.ref D) (.ref C) = some false) ∧
    ∀ t ∈ baseTys, PySem.W.kitOne K (.type t) (.ref C) = some false
def isiCD (yes no : List Str) : D → Option D
  | .ins n _ => if n ∈ yes then some (.bl true) else if n ∈ no then some (.bl false) else none
  | x => match tyD x with
    | some _ => some (.bl false)
    | none => none
theorem tyD_base {x : D} {t : String} (h : tyD x = some t) : t ∈ baseTys := by
  cases x <;> cases h <;> decide
theorem se_isiC {yes no : List Str} {cn : Str} {p p2 : Pos} (hK : X.K = B.K) (h : IsiC B.K X.mg cn yes no) (hm : X.mg "isinstance" = none) (he : SE X B W e f) (hg : Gl X "isinstance" := by rfl) (hgc : Gl X cn := by rfl) (hdc : (cn == ("__debug__" : Str)) = false := by decide)
    (hst : starEach [e, .Name cn p2] X.env = (false, eval e X.env) :: starEach [.Name cn p2] X.env := by rfl) (hs2 : starEach [.Name cn p2] X.env = (false, eval (.Name cn p2) X.env) :: starEach [] X.env := by rfl) (hpl : (backTo pos (starEach [.Name cn p2] X.env)).any (·.1) = false := by rfl) :
    SE X B W (.Call (.Name "isinstance" p) [e, .Name cn p2] [] pos) (op1F (isiCD yes no) f) := by
  obtain ⟨C, hC, h1, h2, h3⟩ := h.ex
  refine PE.imp (pe_callB call_isi hg hm bt_isinstance (pa_cons he (pa_cons (pe_glob (v := .ref C) hgc hC rfl hdc) pa_nil hs2) hst) (by decide) (by decide) hst hpl) fun σ H Q ⟨M, s, r, p⟩ => ⟨M, s, r, Post.bind p fun d s1 M1 H1 v r1 q1 ev1 p1 => ?_⟩
  unfold toR at p1
  split at p1
  · rename_i d' hd
    have key : ∀ (t : Value) (b : Bool), TyX X.K H1 v t → PySem.W.kitOne X.K t (.ref C) = some b → d' = .bl b → rIsi X.K [v, .ref C] H1 Q := fun t b ht hk e => by
      subst e
      exact ⟨v, .ref C, t, .ref C, b, rfl, .own C, ht, hk, p1.out r1 (.bl b)⟩
    have hins : ∀ n fs, d = .ins n fs → isiCD yes no (.ins n fs) = some d' → rIsi X.K [v, .ref C] H1 Q := fun n fs ed hd => by
      subst ed
      cases q1 with
      | @ins a C' dx _ vs _ g1 g2 g3 g4 g5 =>
        unfold isiCD at hd
        dsimp only at hd
        split at hd
        · rename_i hn
          obtain ⟨D', hD, it, hk⟩ := h1 n hn
          cases hD.uniq g3
          cases hd
          exact key (.ref C') true (.base (.ins g1 (hK ▸ it.cl) (hK ▸ it.a) (hK ▸ it.b) (hK ▸ it.c) (hK ▸ it.d))) (hK ▸ hk) rfl
        · split at hd
          · rename_i hn
            obtain ⟨D', hD, it, hk⟩ := h2 n hn
            cases hD.uniq g3
            cases hd
            exact key (.ref C') false (.base (.ins g1 (hK ▸ it.cl) (hK ▸ it.a) (hK ▸ it.b) (hK ▸ it.c) (hK ▸ it.d))) (hK ▸ hk) rfl
          · cases hd
    have hty : ∀ t, tyD d = some t → d' = .bl false → rIsi X.K [v, .ref C] H1 Q := fun t ht e => key (.type t) false (hK ▸ q1.tyx ht) (hK ▸ h3 t (tyD_base ht)) e
    cases d with
    | ins n fs => exact hins n fs rfl hd
    | _ =>
      first
        | (cases hd; done)
        | (cases hd; exact hty _ rfl rfl)
  · exact p1.elim
end
end Fx

set_option Elab.async false
set_option linter.all false
set_option maxRecDepth 100000
namespace Fx
open PySem L2 PyProof.Rows
/-! ### what the text holds of its classes -/
section
variable {P : Program} {w : World} {K : PySem.W.Frag} {mg : Str → Option Value} {base : Heap}
structure MethAt (K : PySem.W.Frag) (cn m qual : Str) (st : Stmt) : Prop where
  ex : ∃ (C f : Addr) (fd : FuncData), ClsAt K cn C ∧ Cls K C ∧ Meth K C m f ∧ Fun K m qual st f fd
structure InitAt (K : PySem.W.Frag) (mg : Str → Option Value) (cn qual : Str) (st : Stmt) : Prop where
  ex : ∃ (C f : Addr) (fd : FuncData), ClsAt K cn C ∧ Mk K C f ∧ Fun K "__init__" qual st f fd ∧ mg cn = some (.ref C)
theorem MKn.of {cn m qual : Str} {st : Stmt} {N ps : List Str} {k n : Nat} {io : Bool} {g : G} (F : MethAt K cn m qual st) (S : FnScope N ps (defScope st)) (hn : N.length = n)
    (h : ∀ (f : Addr) (cdv : Value) (A : Around) (outer : List Env) (s : Shared) (H : Hp) (E : XK), Room k (cxD P w K mg base N qual (defScope st) f cdv A outer s H E).A → (cxD P w K mg base N qual (defScope st) f cdv A outer s H E).A.guards = some [] →
      ∀ B : Bs, B.K = K → SSs (cxD P w K mg base N qual (defScope st) f cdv A outer s H E) B (fun cls d _ H => E cls d H) (defBody st) g) :
    MKn P w K mg base cn m qual st (k + 1) io ps (bodyF n io g) := by
  subst hn
  obtain ⟨C, f, fd, h1, h2, h3, h4⟩ := F.ex
  exact ⟨C, f, fd, h1, h2, h3, h4, fn_mk h4 S (h f)⟩
theorem CKn.of {cn qual : Str} {st : Stmt} {N ps : List Str} {k n : Nat} {g : G} (F : InitAt K mg cn qual st) (S : FnScope N ps (defScope st)) (hn : N.length = n)
    (h : ∀ (f : Addr) (cdv : Value) (A : Around) (outer : List Env) (s : Shared) (H : Hp) (E : XK), Room k (cxD P w K mg base N qual (defScope st) f cdv A outer s H E).A → (cxD P w K mg base N qual (defScope st) f cdv A outer s H E).A.guards = some [] →
      ∀ B : Bs, B.K = K → SSs (cxD P w K mg base N qual (defScope st) f cdv A outer s H E) B (fun cls d _ H => E cls d H) (defBody st) g) :
    CKn P w K mg base cn qual st (k + 1) ps (bodyF n true g) := by
  subst hn
  obtain ⟨C, f, fd, h1, h2, h3, h4⟩ := F.ex
  exact ⟨C, f, fd, h1, h2, h3, fn_mk h3 S (h f), h4⟩
end
end Fx

set_option Elab.async false
set_option linter.all false
set_option maxRecDepth 100000
namespace Fx
open PySem L2 PyProof.Rows
/-! ### x == y, x of a class with an own __eq__ -/
section
variable {X : Cx}
def okY (oks : List Str) : D → Bool
  | .ins n _ => oks.contains n
  | x => (tyD x).isSome
def eqOwnD (cn : Str) (oks : List Str) (Fn : List D → FR) (x y : D) : Option D := match x with
  | .ins c fs => if c = cn ∧ okY oks y = true then match Fn [.ins c fs, y] with
    | .ret (.bl b) _ => some (.bl b)
    | _ => none
    else none
  | _ => none
structure EqK (K : PySem.W.Frag) (cn : Str) (oks : List Str) : Prop where
  ex : ∃ C, ClsAt K cn C ∧ (∀ n ∈ oks, ∃ C', ClsAt K n C' ∧ PySem.W.notFirst K C (.ref C') = true) ∧ ∀ t ∈ baseTys, PySem.W.notFirst K C (.type t) = true
theorem looks_ty {P : Program} {w : World} {h : Heap} {u : Value} {T : String} (k : ∀ s : Shared, (∀ b o, h.get? b = some o → s.heap.get? b = some o) → s.TypeIs u T) : PySem.W.Looks (model P w) h (typeOf u) (.type T) := fun A Q E s g q => wpAny_typeOf (k s g) q
theorem Rp.looks {K : PySem.W.Frag} {M : MS} {pins : List (Addr × Obj)} {σ : L2.St} {H : Hp} {s : Shared} {v : V} {u : Value} {d : D} {t : String} (hK : X.K = K) (I : Inv X pins σ H s) (q : Rp K M H v d) (rv : RelV v u) (h : tyD d = some t) : PySem.W.Looks (model X.prog X.w) s.heap (typeOf u) (.type t) := by
  subst hK
  cases d with
  | non => cases q; cases h; cases rv; exact looks_ty fun s _ => typeIs_none s
  | bl b => cases q; cases h; cases rv; exact looks_ty fun s _ => PySem.typeIs_bool s _
  | int i => cases q; cases h; obtain ⟨t, rfl⟩ := rv; exact looks_ty fun s _ => typeIs_int s _ _
  | str x => cases q; cases h; obtain ⟨t, rfl⟩ := rv; exact looks_ty fun s _ => typeIs_str s _ _
  | lst xs =>
    cases h
    obtain ⟨a, ys, rfl, hq, l⟩ := q.seq
    cases rv
    obtain ⟨its, r, p, hz⟩ := I.list hq
    obtain ⟨o, ho, hc, _⟩ := p.isList
    exact looks_ty fun s g => ⟨o, g _ _ ho, hc⟩
  | tup xs =>
    cases h
    obtain ⟨a, ys, rfl, hq, l⟩ := q.seqT
    cases rv
    obtain ⟨its, r, p, hz⟩ := I.tuple hq
    obtain ⟨o, ho, hc, _⟩ := p
    exact looks_ty fun s g => ⟨o, g _ _ ho, hc⟩
  | _ => cases h
def rEqOwn (X : Cx) (cn : Str) (oks : List Str) (Fn : List D → FR) : R2 := fun x y H Q => ∃ (M : MS) (c e : D) (b : Bool) (ios : MO), MOk M H ∧ Rp X.K M H x c ∧ Rp X.K M H y e ∧ (∃ fs, c = .ins cn fs) ∧ okY oks e = true ∧ Fn [c, e] = .ret (.bl b) ios ∧ ∀ H', Same H H' → Q (.bl b) H'
theorem op_eqOwn {P : Program} {w : World} {K : PySem.W.Frag} {mg : Str → Option Value} {base : Heap} {cn qual : Str} {st : Stmt} {k j : Nat} {ps : List Str} {Fn : List D → FR} {oks : List Str} (kn : MKn P w K mg base cn "__eq__" qual st k false ps Fn)
    (hX : X.prog = P ∧ X.w = w ∧ X.K = K ∧ X.mg = mg ∧ X.base = base) (hr : Room j X.A) (hk : k ≤ j) (hq : X.A.guards = some []) (ek : EqK K cn oks) (hp : ps.length = 2)
    (h : ∀ (kV doc pm : Value) (an : Option Addr) (cdv ct : Value) (us ws : List Value), us.length = ps.length → ws.length = ([] : List Str).length → bindArgs (PySem.W.fnOf "__eq__" qual (defArgs st) (defBody st) (defScope st) .none kV doc pm an cdv ct) ⟨us, ([] : List Str).zip ws⟩ = pure (ps.zip ((List.range ps.length).filterMap fun i => (us ++ ws ++ [])[i]?))) :
    ∃ r, OpR X (compareOp .Eq) r ∧ Op2 X.K r (eqOwnD cn oks Fn) := by
  obtain ⟨rfl, rfl, rfl, rfl, rfl⟩ := hX
  refine ⟨rEqOwn X cn oks Fn, ?_, fun x y d e M H v u Q m qx qy kk => ?_⟩
  · intro pins s σ H x y v u Q I rx ry ⟨M, c, e, b, ios, m, qx, qy, ⟨fs, hc⟩, hy, hF, q⟩
    subst hc
    obtain ⟨C, f, fd, hC, cl, hm, F, G⟩ := kn.ex
    obtain ⟨C2, hC2, e1, e2⟩ := ek.ex
    cases hC.uniq hC2
    have qx0 := qx
    cases qx0 with
    | @ins a C' dx _ vs _ h1 h2 h3 h4 h5 =>
    cases hC.uniq h3
    cases rx
    obtain ⟨mA, J, _⟩ := ins_get I.hok h1
    obtain ⟨od, J, _⟩ := J.look
    obtain ⟨mm, hFr⟩ := I.fr
    have lk : ∃ tb, PySem.W.Looks (model X.prog X.w) s.heap (typeOf u) tb ∧ PySem.W.notFirst X.K C tb = true := by
      have base : ∀ t, tyD e = some t → ∃ tb, PySem.W.Looks (model X.prog X.w) s.heap (typeOf u) tb ∧ PySem.W.notFirst X.K C tb = true := fun t ht => ⟨_, qy.looks rfl I ry ht, e2 t (tyD_base ht)⟩
      cases e with
      | ins n gs =>
        obtain ⟨C3, hC3, hn⟩ := e1 n (by simpa [okY] using hy)
        cases qy with
        | @ins a' C'' dx' _ vs' _ g1 g2 g3 g4 g5 =>
          cases hC3.uniq g3
          cases ry
          obtain ⟨mB, J', _⟩ := ins_get I.hok g1
          obtain ⟨od', J', _⟩ := J'.look
          exact ⟨_, J'.type, hn⟩
      | non => exact base _ rfl
      | bl _ => exact base _ rfl
      | int _ => exact base _ rfl
      | str _ => exact base _ rfl
      | lst _ => exact base _ rfl
      | tup _ => exact base _ rfl
      | _ => exact absurd hy (by simp [okY, tyD])
    obtain ⟨tb, hb, hn⟩ := lk
    refine PySem.W.cmp_K (op := .Eq) (tb := tb) hr.units0 hFr I.ok.mod.kin J hb hn hm.at_ hm.fn ?_
    have hsp : spF X.K false ps.length Fn (pickG ps.length 0 [] (List.range ps.length) [.ref a, y] []) H (fun v H' => v = .bl b ∧ Same H H') (fun _ _ _ => False) := by
      have hl : ([V.ref a, y]).length = ps.length := hp.symm
      rw [pick_range hl]
      refine ⟨hl, M, [.ins cn fs, e], m, .cons qx (.cons qy .nil), ?_⟩
      rw [hF]
      intro v H' st _ qv
      cases qv
      exact ⟨rfl, same_of rfl st⟩
    refine wpAny_mono (run_fnT (E := fun _ _ _ _ => False) (us := [.ref a, u]) (vs := [.ref a, y]) (ks := []) (ws := []) (zs := []) G (hr.mono hk) hq (Fun.kb (ks := []) F (by omega) h) (fun _ _ _ _ _ _ c => by
      obtain ⟨_, _, _, _, _, _, _, _, _, _, _, _, z⟩ := c
      exact z.elim) I (.cons rfl (.cons ry .nil)) .nil hsp) (fun r s' hr' => ?_) fun _ _ z => z
    obtain ⟨z, H', J2, rz, ez, sm⟩ := hr'
    subst ez
    cases rz
    exact ⟨.bl b, H', J2, rfl, q H' sm⟩
  · unfold eqOwnD at e
    split at e
    · split at e
      · rename_i c fs hc
        split at e
        · rename_i b ios hF
          cases e
          obtain ⟨rfl, hy⟩ := hc
          exact ⟨M, _, _, b, ios, m, qx, qy, ⟨fs, rfl⟩, hy, hF, fun H' sm => kk _ H' sm (.bl b)⟩
        · cases e
      · cases e
    · cases e
end
end Fx
namespace Fx
open PySem L2 PyProof.Rows
theorem kit_base {K : PySem.W.Frag} {C : Addr} {t : String} (c : PySem.W.isClsIn K C = true) (y : PySem.W.typeIn K (.ref C) = some (.type "type")) (h : (PySem.fastBuiltinMro t).map (·.contains (Value.ref C)) = some false) : PySem.W.kitOne K (.type t) (.ref C) = some false := by
  unfold PySem.W.kitOne
  rw [if_neg (show ¬ ((Value.type t == Value.ref C) = true) from Bool.false_ne_true)]
  unfold PySem.W.kitCls
  have e : ((PySem.W.clsIn K C).isSome && PySem.W.typeIn K (.ref C) == some (.type "type")) = true := by
    rw [show (PySem.W.clsIn K C).isSome = true from c, y]
    rfl
  show (if ((PySem.W.clsIn K C).isSome && PySem.W.typeIn K (.ref C) == some (.type "type")) = true then PySem.W.subIn K (.type t) (.ref C) else none) = _
  rw [if_pos e]
  exact h
theorem kit_self {K : PySem.W.Frag} {C : Addr} : PySem.W.kitOne K (.ref C) (.ref C) = some true := by
  unfold PySem.W.kitOne
  rw [if_pos (beq_self_eq_true _)]
theorem kit_other {K : PySem.W.Frag} {C C' : Addr} (c : PySem.W.isClsIn K C = true) (y : PySem.W.typeIn K (.ref C) = some (.type "type")) (n : (Value.ref C' == Value.ref C) = false) (h : PySem.W.mroIn K C' (.ref C) = some false) : PySem.W.kitOne K (.ref C') (.ref C) = some false := by
  unfold PySem.W.kitOne
  rw [if_neg (by rw [n]; exact Bool.false_ne_true)]
  unfold PySem.W.kitCls
  have e : ((PySem.W.clsIn K C).isSome && PySem.W.typeIn K (.ref C) == some (.type "type")) = true := by
    rw [show (PySem.W.clsIn K C).isSome = true from c, y]
    rfl
  show (if ((PySem.W.clsIn K C).isSome && PySem.W.typeIn K (.ref C) == some (.type "type")) = true then PySem.W.subIn K (.ref C') (.ref C) else none) = _
  rw [if_pos e]
  exact h
theorem mro_no {C : Addr} : (PySem.fastBuiltinMro "NoneType").map (·.contains (Value.ref C)) = some false ∧ (PySem.fastBuiltinMro "bool").map (·.contains (Value.ref C)) = some false ∧ (PySem.fastBuiltinMro "int").map (·.contains (Value.ref C)) = some false ∧
    (PySem.fastBuiltinMro "str").map (·.contains (Value.ref C)) = some false ∧ (PySem.fastBuiltinMro "list").map (·.contains (Value.ref C)) = some false ∧ (PySem.fastBuiltinMro "tuple").map (·.contains (Value.ref C)) = some false := by
  refine ⟨?_, ?_, ?_, ?_, ?_, ?_⟩ <;> rfl
theorem kit_all {K : PySem.W.Frag} {C : Addr} (c : PySem.W.isClsIn K C = true) (y : PySem.W.typeIn K (.ref C) = some (.type "type")) : ∀ t ∈ baseTys, PySem.W.kitOne K (.type t) (.ref C) = some false := fun t ht => by
  obtain ⟨a, b, d, e, f, g⟩ := mro_no (C := C)
  simp only [baseTys, List.mem_cons, List.not_mem_nil, or_false] at ht
  rcases ht with rfl | rfl | rfl | rfl | rfl | rfl
  · exact kit_base c y a
  · exact kit_base c y b
  · exact kit_base c y d
  · exact kit_base c y e
  · exact kit_base c y f
  · exact kit_base c y g
end Fx
namespace Fx
open PySem L2 PyProof.Rows
section
variable {X : Cx} {B : Bs} {W : WX} {e : Expr} {es : List Expr} {k : F (List D)} {pos : Pos}
def gcdD : List D → Option D
  | [.int a, .int b] => some (.int ((Nat.gcd a.natAbs b.natAbs : Nat) : Int))
  | _ => none
theorem c_gcd : ∃ r, CallR X (.builtin "math.gcd") r ∧ OpN X.K r gcdD := by
  refine ⟨_, cr_gcd, fun xs d e M H vs Q m qs k => ?_⟩
  unfold gcdD at e
  split at e
  · cases e
    obtain ⟨v, u, rfl, q1, q2⟩ := qs.two
    cases q1
    cases q2
    exact ⟨_, _, rfl, k _ H same_rfl (.int _)⟩
  · cases e
/-- f(e, ..), f a name of the text's for a function of a module -/
theorem se_Bfun {x : Str} {id : String} {p : Pos} {o : List D → Option D} (hK : X.K = B.K) (hc : ∃ r, CallR X (.builtin id) r ∧ OpN X.K r o) (hm : X.mg x = some (.builtin id)) (ha : SA X B W (e :: es) k) (hg : Gl X x := by rfl) (hdb : (x == ("__debug__" : Str)) = false := by decide)
    (he : starEach (e :: es) X.env = (false, eval e X.env) :: starEach es X.env := by rfl) (hpl : (backTo pos (starEach es X.env)).any (·.1) = false := by rfl) : SE X B W (.Call (.Name x p) (e :: es) [] pos) (opnF o k) := by
  obtain ⟨r, h1, h2⟩ := hc
  exact PE.imp (pe_callBfun h1 hg hm ha hdb he hpl) fun σ H Q p => n_run (hK ▸ h2) p
end
end Fx

set_option Elab.async false
set_option linter.all false
set_option maxRecDepth 100000
namespace Fx
open PySem L2 PyProof.Rows
/-! ### own lists lent to a call: names and constants as arguments -/
mutual
/-- data without a list, an instance: no matter what may be changed -/
def noL : D → Bool
  | .lst _ => false
  | .fz _ => false
  | .ins _ _ => false
  | .tup xs => noLL xs
  | _ => true
def noLL : List D → Bool
  | [] => true
  | x :: xs => noL x && noLL xs
end
mutual
theorem Rp.any {K : PySem.W.Frag} {M M' : MS} {H : Hp} : ∀ {v : V} {d : D}, Rp K M H v d → noL d = true → Rp K M' H v d
  | _, _, .non, _ => .non
  | _, _, .bl b, _ => .bl b
  | _, _, .int i, _ => .int i
  | _, _, .str x, _ => .str x
  | _, _, .ty n, _ => .ty n
  | _, _, .ref a, _ => .ref a
  | _, _, .lst h n l, e => by unfold noL at e; cases e
  | _, _, .fz h n l, e => by unfold noL at e; cases e
  | _, _, .fzK h l, e => by unfold noL at e; cases e
  | _, _, .tup h l, e => by unfold noL at e; exact .tup h (RpL.any l e)
  | _, _, .tupK h l, e => by unfold noL at e; exact .tupK h (RpL.any l e)
  | _, _, .ins h n c q l, e => by unfold noL at e; cases e
theorem RpL.any {K : PySem.W.Frag} {M M' : MS} {H : Hp} : ∀ {vs : List V} {ds : List D}, RpL K M H vs ds → noLL ds = true → RpL K M' H vs ds
  | _, _, .nil, _ => .nil
  | _, _, .cons h t, e => by
    unfold noLL at e
    rw [Bool.and_eq_true] at e
    exact .cons (Rp.any h e.1) (RpL.any t e.2)
end
/-- what is left when the slots L are lent -/
def Lent (M : MS) (σ : L2.St) (L : List Nat) : MS := fun b => M b ∧ ∀ i ∈ L, σ[i]? ≠ some (some (.ref b))
section
variable {X : Cx} {B : Bs} {W : WX} {e : Expr} {es : List Expr} {pos : Pos} {L : List Nat}
/-- what an argument is worth, read from the slots -/
abbrev FA := List Sl → Option (List D)
def tL (B : Bs) (L : List Nat) (f : FA) : TA := fun σ H Q => ∃ M s ds, SR B M σ H s ∧ f s = some ds ∧ ∀ vs, RpL B.K (Lent M σ L) H vs ds → Q vs H
def SL (X : Cx) (B : Bs) (L : List Nat) (es : List Expr) (f : FA) : Prop := PA X es (tL B L f)
def nilL : FA := fun _ => some []
def nameL (i : Nat) (f : FA) : FA := fun s => match s[i]?, f s with
  | some (.va d), some ds => some (d :: ds)
  | _, _ => none
def lendL (i : Nat) (f : FA) : FA := fun s => match s[i]?, f s with
  | some (.ow m), some ds => some (m.d :: ds)
  | some (.io m), some ds => some (m.d :: ds)
  | some (.va d), some ds => some (d :: ds)
  | _, _ => none
def conL (d : D) (f : FA) : FA := fun s => (f s).map (d :: ·)
theorem sl_nil : SL X B L [] nilL := PA.imp pa_nil fun σ H Q ⟨M, s, ds, r, e, p⟩ => by
  cases e
  exact p [] .nil
theorem sl_int {i : Int} {j : Nat} {p : Pos} {f : FA} (hr : SL X B L es f) (hs : starEach (.Constant (.int i) j p :: es) X.env = (false, eval (.Constant (.int i) j p) X.env) :: starEach es X.env := by rfl) : SL X B L (.Constant (.int i) j p :: es) (conL (.int i) f) :=
  PA.imp (pa_cons pe_int hr hs) fun σ H Q ⟨M, s, ds, r, e, q⟩ => by
    unfold conL at e
    cases h : f s with
    | none => rw [h] at e; cases e
    | some es =>
      rw [h] at e
      cases e
      exact ⟨M, s, es, r, h, fun vs l => q _ (.cons (.int i) l)⟩
theorem sl_name (i : Nat) {x : Str} {p : Pos} {f : FA} (hr : SL X B L es f) (hN : X.N[i]? = some x := by rfl) (hv : Vis X.env.scope x := by first | exact Or.inl rfl | exact Or.inr (Or.inl rfl) | exact Or.inr (Or.inr rfl)) (hd : (x == ("__debug__" : Str)) = false := by decide) (hcd : (x == ("__classdict__" : Str)) = false := by decide)
    (hs : starEach (.Name x p :: es) X.env = (false, eval (.Name x p) X.env) :: starEach es X.env := by rfl) : SL X B L (.Name x p :: es) (nameL i f) :=
  PA.imp (pa_cons (pe_var hN hv hd hcd) hr hs) fun σ H Q ⟨M, s, ds, r, e, q⟩ => by
    unfold nameL at e
    split at e
    · rename_i d es h1 h2
      cases e
      obtain ⟨v, e1, q1⟩ := r.va i d h1
      exact ⟨v, e1, M, s, es, r, h2, fun vs l => q _ (.cons (q1.move r.mo (.sub fun b z => z.1)) l)⟩
    · cases e
theorem sl_lend (i : Nat) {x : Str} {p : Pos} {f : FA} (hi : i ∈ L) (hr : SL X B L es f) (hN : X.N[i]? = some x := by rfl) (hv : Vis X.env.scope x := by first | exact Or.inl rfl | exact Or.inr (Or.inl rfl) | exact Or.inr (Or.inr rfl)) (hd : (x == ("__debug__" : Str)) = false := by decide) (hcd : (x == ("__classdict__" : Str)) = false := by decide)
    (hs : starEach (.Name x p :: es) X.env = (false, eval (.Name x p) X.env) :: starEach es X.env := by rfl) : SL X B L (.Name x p :: es) (lendL i f) :=
  PA.imp (pa_cons (pe_var hN hv hd hcd) hr hs) fun σ H Q ⟨M, s, ds, r, e, q⟩ => by
    have sb : Ev M H (Lent M σ L) H := .sub fun b z => z.1
    unfold lendL at e
    split at e
    · rename_i m es h1 h2
      cases e
      obtain ⟨a, o, e1, g1, g2, g3, g4⟩ := r.ow i m h1
      exact ⟨_, e1, M, s, es, r, h2, fun vs l => q _ (.cons ((g4.move r.mo sb).rp g1 fun z => z.2 i hi e1) l)⟩
    · rename_i m es h1 h2
      cases e
      obtain ⟨z, a, o, g0, e1, g1, g2, g4⟩ := r.io i m h1
      subst z
      exact ⟨_, e1, M, s, es, r, h2, fun vs l => q _ (.cons ((g4.move r.mo sb).rp g1 fun z => z.2 0 hi e1) l)⟩
    · rename_i d es h1 h2
      cases e
      obtain ⟨v, e1, q1⟩ := r.va i d h1
      exact ⟨v, e1, M, s, es, r, h2, fun vs l => q _ (.cons (q1.move r.mo sb) l)⟩
    · cases e
/-- f(own, ..): the own lists come back -/
def callLF (Fn : List D → FR) (n : Nat) (f : FA) : F D := fun s => match f s with
  | some ds => if ds.length = n then match Fn ds with
    | .ret d _ => if noL d = true then .ok d s else .no
    | .retn es _ => if noLL es = true then .ok (.lst es) s else .no
    | _ => .no
    else .no
  | none => .no
def callLN (Fn : List D → FR) (n : Nat) (f : FA) : F (List D) := fun s => match f s with
  | some ds => if ds.length = n then match Fn ds with
    | .retn es _ => if noLL es = true then .ok es s else .no
    | _ => .no
    else .no
  | none => .no
theorem Lent.mok {M : MS} {σ : L2.St} {H : Hp} (m : MOk M H) : MOk (Lent M σ L) H := fun b z => m b z.1
structure DnL (X : Cx) (B : Bs) (W : WX) (x : Str) (n : Nat) (Fn : List D → FR) : Prop where
  ex : ∃ (k : Nat) (f : Addr) (fd : FuncData) (ps : List Str), FnG X.prog X.w X.K X.mg X.base k f fd ps (spF B.K false n Fn) ∧ Room k X.A ∧ X.A.guards = some [] ∧ Gl X x ∧ X.mg x = some (.ref f) ∧ PySem.W.keepIn X.K (.ref f) = true ∧
    KBinds X.K fd ps [] (pickG n 0 [] (List.range n)) (pickG n 0 [] (List.range n))
  tk : Takes X W
theorem Kn.dnL {P : Program} {w : World} {K : PySem.W.Frag} {mg : Str → Option Value} {base : Heap} {x qual : Str} {st : Stmt} {k j : Nat} {ps : List Str} {Fn : List D → FR} (kn : Kn P w K mg base x qual st k false ps Fn)
    (hX : X.prog = P ∧ X.w = w ∧ X.K = K ∧ X.mg = mg ∧ X.base = base) (hK : B.K = K) (hr : Room j X.A) (hk : k ≤ j) (hq : X.A.guards = some []) (hg : Gl X x) (tk : Takes X W) (hp : 0 < ps.length)
    (h : ∀ (kV doc pm : Value) (an : Option Addr) (cdv ct : Value) (us ws : List Value), us.length = ps.length → ws.length = ([] : List Str).length → bindArgs (PySem.W.fnOf x qual (defArgs st) (defBody st) (defScope st) .none kV doc pm an cdv ct) ⟨us, ([] : List Str).zip ws⟩ = pure (ps.zip ((List.range ps.length).filterMap fun i => (us ++ ws ++ [])[i]?))) :
    DnL X B W x ps.length Fn := by
  obtain ⟨rfl, rfl, rfl, rfl, rfl⟩ := hX
  obtain ⟨f, fd, F, G, hm⟩ := kn.ex
  exact ⟨⟨k, f, fd, ps, hK ▸ G, hr.mono hk, hq, hg, hm, F.kp, Fun.kb (ks := []) F hp h⟩, tk⟩
theorem se_callL {x : Str} {p : Pos} {n : Nat} {Fn : List D → FR} {f : FA} (D0 : DnL X B W x n Fn) (ha : SL X B L (e :: es) f) (hdb : (x == ("__debug__" : Str)) = false := by decide) (he : starEach (e :: es) X.env = (false, eval e X.env) :: starEach es X.env := by rfl) (hpl : (backTo pos (starEach es X.env)).any (·.1) = false := by rfl) :
    SE X B W (.Call (.Name x p) (e :: es) [] pos) (callLF Fn n f) := by
  obtain ⟨⟨k, fa, fd, ps, F, hr, hq, hg, hm, hk, hb⟩, tk⟩ := D0
  refine PE.imp (pe_callT F hr hq hg hm hk hb (passAt tk) ha hdb he hpl) fun σ H Q ⟨M, s, r, p⟩ => ?_
  unfold callLF at p
  split at p
  · rename_i ds hf
    split at p
    · rename_i hn
      refine ⟨M, s, ds, r, hf, fun vs l => ?_⟩
      have hl : vs.length = n := l.length.trans hn
      show spF B.K false n Fn (pickG n 0 [] (List.range n) vs []) H Q (WE W σ)
      rw [pick_range hl]
      refine ⟨hl, Lent M σ L, ds, Lent.mok r.mo, l, ?_⟩
      split at p
      · rename_i d ios hF
        rw [hF]
        split at p
        · rename_i hd
          intro v H' st _ q
          exact p v H' M (r.grow (same_of rfl st)) (q.any hd) (.same (same_of rfl st))
        · exact p.elim
      · rename_i es' ios hF
        rw [hF]
        split at p
        · rename_i hd
          intro a xs H' st hn2 hp _ q
          exact p (.ref a) H' M (r.grow (same_of rfl st)) (.lst hp (r.mo.there hn2) (q.any hd)) (.same (same_of rfl st))
        · exact p.elim
      · exact p.elim
    · exact p.elim
  · exact p.elim
end
end Fx

set_option Elab.async false
set_option linter.all false
set_option maxRecDepth 100000
namespace Fx
open PySem L2 PyProof.Rows
/-! ### tuple assignment with own lists among the parts -/
inductive AR where
  | va (d : D) | ow (ds : List D)
/-- parts come to: values, and owned lists that are locked -/
inductive Lk (M : MS) (H : Hp) : Bs → List V → List AR → Bs → Prop
  | nil {B : Bs} : Lk M H B [] [] B
  | va {B B' : Bs} {v : V} {d : D} {vs : List V} {as : List AR} : Rp B.K M H v d → Lk M H B vs as B' → Lk M H B (v :: vs) (.va d :: as) B'
  | ow {B B' : Bs} {p : Addr} {xs : List V} {ds : List D} {vs : List V} {as : List AR} : B.L p = none → B.H0 p = none → RpL B.K M H xs ds → Lk M H (B.lock p (.lst xs)) vs as B' → Lk M H B (.ref p :: vs) (.ow ds :: as) B'
def PostM (B : Bs) (W : WX) (M : MS) (H : Hp) (σ : L2.St) (r : R (List AR)) (Q : List V → Hp → Prop) : Prop := match r with
  | .ok as s' => ∀ vs H' M' B', SR B' M' σ H' s' → Lk M' H' B vs as B' → Ev M H M' H' → Q vs H'
  | .er x s' => ∀ cls od H' M', SR B M' σ H' s' → XR B.K M' H' cls od x → W cls od σ H'
  | .no => False
def tM (B : Bs) (W : WX) (f : F (List AR)) : TA := fun σ H Q => ∃ M s, SR B M σ H s ∧ PostM B W M H σ (f s) Q
def SM (X : Cx) (B : Bs) (W : WX) (es : List Expr) (f : F (List AR)) : Prop := PA X es (tM B W f)
section
variable {X : Cx} {B : Bs} {W : WX} {e : Expr} {es : List Expr} {pos : Pos} {M M' : MS} {σ : L2.St} {H H' : Hp} {s : List Sl}
theorem PostM.later {r : R (List AR)} {Q : List V → Hp → Prop} (h : PostM B W M H σ r Q) (ev : Ev M H M' H') : PostM B W M' H' σ r Q := by
  cases r with
  | ok d s' => exact fun v H2 M2 B' a b c => h v H2 M2 B' a b (ev.trans c)
  | er x s' => exact h
  | no => exact h
theorem Lk.K {B B' : Bs} {vs : List V} {as : List AR} (h : Lk M H B vs as B') : B'.K = B.K := by
  induction h with
  | nil => rfl
  | va _ _ ih => exact ih
  | ow _ _ _ _ ih => exact ih
/-- an owned list is in no slot -/
theorem Owned.out {p : Addr} {ds : List D} (q : Owned B σ s M H p ds) (r : SR B M σ H s) : ¬ Own σ s p := by
  obtain ⟨xs, h1, h2, h3, h4, hL, h5⟩ := q
  rintro ⟨i, o, e | e, e1⟩
  · exact h5 i o e e1
  · obtain ⟨z, a, zs, p2, e2, q, m, l⟩ := r.io i o e
    subst z
    rw [e1] at e2
    cases e2
    exact r.bm.there h3 (r.pa p p2).1
def ownedV : List V → List AR → List V
  | v :: vs, .ow _ :: as => v :: ownedV vs as
  | _ :: vs, .va _ :: as => ownedV vs as
  | _, _ => []
/-- let go: each is owned, and they are different -/
inductive Os (B : Bs) (σ : L2.St) (s : List Sl) (M : MS) (H : Hp) : List V → List AR → Prop
  | nil : Os B σ s M H [] []
  | va {v : V} {d : D} {vs : List V} {as : List AR} : Rp B.K M H v d → Os B σ s M H vs as → Os B σ s M H (v :: vs) (.va d :: as)
  | ow {p : Addr} {ds : List D} {vs : List V} {as : List AR} : Owned B σ s M H p ds → V.ref p ∉ ownedV vs as → Os B σ s M H vs as → Os B σ s M H (.ref p :: vs) (.ow ds :: as)
theorem Bs.lock_L {B : Bs} {p q : Addr} {o : HO} : (B.lock p o).L q = if q = p then some o else B.L q := rfl
theorem Lk.free {B B' : Bs} {vs : List V} {as : List AR} (h : Lk M H B vs as B') : ∀ {p : Addr}, B.L p ≠ none → V.ref p ∉ ownedV vs as := by
  induction h with
  | nil => intro p _ z; exact nomatch z
  | va _ _ ih => intro p hp; unfold ownedV; exact ih hp
  | @ow B B' q xs ds vs as h1 h2 h3 h4 ih =>
    intro p hp
    unfold ownedV
    rw [List.mem_cons, not_or]
    refine ⟨fun z => ?_, ih ?_⟩
    · cases z; exact hp h1
    · rw [Bs.lock_L]
      split
      · exact nofun
      · exact hp
theorem Lk.L {B B' : Bs} {vs : List V} {as : List AR} (h : Lk M H B vs as B') : ∀ {p : Addr} {o : HO}, B.L p = some o → B'.L p = some o := by
  induction h with
  | nil => exact id
  | va _ _ ih => exact ih
  | @ow B B' q xs ds vs as h1 h2 h3 h4 ih =>
    intro p o hp
    refine ih ?_
    rw [Bs.lock_L]
    split
    · rename_i z; subst z; rw [h1] at hp; cases hp
    · exact hp
theorem Lk.unl {B B' : Bs} {vs : List V} {as : List AR} (h : Lk M H B vs as B') (r : SR B' M σ H s) : SR B M σ H s ∧ Os B σ s M H vs as := by
  induction h with
  | nil => exact ⟨r, .nil⟩
  | va q _ ih => exact ⟨(ih r).1, .va q (ih r).2⟩
  | @ow B B' p xs ds vs as h1 h2 h3 h4 ih =>
    obtain ⟨r1, o1⟩ := ih r
    have hp : (B.lock p (.lst xs)).L p = some (.lst xs) := by rw [Bs.lock_L, if_pos rfl]
    obtain ⟨l1, l2, l3⟩ := r1.lk p _ hp
    have r2 := r1.unlock h1
    refine ⟨r2, .ow ⟨xs, l2, l1, h2, h3, h1, fun j es e z => l3 ⟨j, es, .inl e, z⟩⟩ (h4.free (by rw [hp]; exact nofun)) ?_⟩
    clear ih r1 h4
    induction o1 with
    | nil => exact .nil
    | va q _ ih => exact .va q ih
    | ow q n _ ih =>
      refine .ow ?_ n ih
      obtain ⟨ys, a1, a2, a3, a4, a5, a6⟩ := q
      refine ⟨ys, a1, a2, a3, a4, ?_, a6⟩
      rw [Bs.lock_L] at a5
      split at a5
      · cases a5
      · exact a5
def toSl : AR → Sl
  | .va d => .va d
  | .ow ds => .ow (.l ds)
def putA : List Nat → List AR → List Sl → Option (List Sl)
  | [], [], s => some s
  | i :: is, a :: as, s => if okSl s i = true then putA is as (s.set i (toSl a)) else none
  | _, _, _ => none
def setV : List Nat → List V → L2.St → L2.St
  | i :: is, v :: vs, σ => setV is vs (σ.set i (some v))
  | _, _, σ => σ
theorem Os.len {vs : List V} {as : List AR} (h : Os B σ s M H vs as) : vs.length = as.length := by
  induction h with
  | nil => rfl
  | va _ _ ih => exact congrArg (· + 1) ih
  | ow _ _ _ ih => exact congrArg (· + 1) ih
theorem Os.set {vs : List V} {as : List AR} {i : Nat} {v : V} {x : Sl} (h : Os B σ s M H vs as) (hx : ∀ p es, x = .ow es → v = .ref p → V.ref p ∉ ownedV vs as) : Os B (σ.set i (some v)) (s.set i x) M H vs as := by
  induction h with
  | nil => exact .nil
  | va q _ ih => exact .va q (ih hx)
  | @ow p ds vs as q n _ ih =>
    unfold ownedV at hx
    refine .ow ?_ n (ih fun p es e1 e2 z => hx p es e1 e2 (List.mem_cons_of_mem _ z))
    obtain ⟨ys, a1, a2, a3, a4, a5, a6⟩ := q
    refine ⟨ys, a1, a2, a3, a4, a5, fun j es e z => ?_⟩
    rcases nth_set e with ⟨rfl, e1⟩ | ⟨hj, e1⟩
    · cases e1
      rcases nth_set z with ⟨_, e2⟩ | ⟨hj, e2⟩
      · cases e2
        exact hx p es rfl rfl List.mem_cons_self
      · exact hj rfl
    · rw [List.getElem?_set_ne hj] at z
      exact a6 j es e1 z
theorem Os.put {as : List AR} : ∀ {is : List Nat} {vs : List V} {σ : L2.St} {s s' : List Sl}, Os B σ s M H vs as → SR B M σ H s → putA is as s = some s' → SR B M (setV is vs σ) H s' := by
  induction as with
  | nil =>
    intro is vs σ s s' h r e
    cases h
    cases is with
    | nil => cases e; exact r
    | cons _ _ => cases e
  | cons a as ih =>
    intro is vs σ s s' h r e
    cases is with
    | nil => cases e
    | cons i is =>
      unfold putA at e
      split at e
      · rename_i ok
        cases h with
        | @va v d vs _ q h =>
          show SR B M (setV is vs (σ.set i (some v))) H s'
          exact ih (h.set (x := .va d) fun p es e1 _ => nomatch e1) (r.put q (okSl.io ok) (okSl.lt ok)) e
        | @ow p ds vs _ q n h =>
          show SR B M (setV is vs (σ.set i (some (.ref p)))) H s'
          obtain ⟨xs, h1, h2, h3, h4, hL, h5⟩ := q
          exact ih (h.set (x := .ow (.l ds)) fun q es _ e2 => by cases e2; exact n) (r.putOw h1 h2 h3 (.l h4) h5 hL (okSl.io ok) (okSl.lt ok)) e
      · cases e
def nilM : F (List AR) := fun s => .ok [] s
def vaM (f : F D) (k : F (List AR)) : F (List AR) := fun s => (f s).bind fun x s1 => (k s1).bind fun xs s2 => .ok (.va x :: xs) s2
def owM (f : F (List D)) (k : F (List AR)) : F (List AR) := fun s => (f s).bind fun x s1 => (k s1).bind fun xs s2 => .ok (.ow x :: xs) s2
theorem sm_nil : SM X B W [] nilM := PA.imp pa_nil fun σ H Q ⟨M, s, r, p⟩ => p [] H M B r .nil .rfl
theorem PostM.bind {α β : Type} {rho : RelT β α} {r : R α} {g : α → F (List AR)} {Q : List V → Hp → Prop} {Q1 : β → Hp → Prop} (h : PostM B W M H σ (r.bind g) Q)
    (k : ∀ d s1 M1 H1 x, SR B M1 σ H1 s1 → rho M1 H1 x d → Ev M H M1 H1 → PostM B W M1 H1 σ (g d s1) Q → Q1 x H1) : Post B W rho M H σ r Q1 := by
  cases r with
  | ok d s' => exact fun v H2 M2 a b c => k d s' M2 H2 v a b c (PostM.later h c)
  | er x s' => exact h
  | no => exact h
theorem PostM.bindN {r : R (List D)} {g : List D → F (List AR)} {Q : List V → Hp → Prop} {Q1 : VK} (h : PostM B W M H σ (r.bind g) Q)
    (k : ∀ ds s1 M1 H1 p, SR B M1 σ H1 s1 → Owned B σ s1 M1 H1 p ds → Ev M H M1 H1 → PostM B W M1 H1 σ (g ds s1) Q → Q1 (.ref p) H1) : PostN B W M H σ r Q1 := by
  cases r with
  | ok d s' => exact fun v H2 M2 a b c => k d s' M2 H2 v a b c (PostM.later h c)
  | er x s' => exact h
  | no => exact h
theorem sm_va {f : F D} {k : F (List AR)} (ha : SE X B W e f) (hr : SM X B W es k) (hs : starEach (e :: es) X.env = (false, eval e X.env) :: starEach es X.env := by rfl) : SM X B W (e :: es) (vaM f k) := by
  refine PA.imp (pa_cons ha hr hs) fun σ H Q ⟨M, s, r, p⟩ => ?_
  refine ⟨M, s, r, PostM.bind p fun x s1 M1 H1 v r1 q1 ev1 p1 => ⟨M1, s1, r1, ?_⟩⟩
  cases hk : k s1 with
  | no => rw [hk] at p1; exact p1
  | er x s2 => rw [hk] at p1; exact p1
  | ok xs s2 =>
    rw [hk] at p1
    exact fun vs H2 M2 B' r2 l2 ev2 => p1 (v :: vs) H2 M2 B' r2 (.va (q1.move r1.mo ev2) l2) ev2
theorem sm_ow {f : F (List D)} {k : F (List AR)} (ha : SN X B W e f) (hr : ∀ B' : Bs, B'.K = B.K → SM X B' W es k) (hs : starEach (e :: es) X.env = (false, eval e X.env) :: starEach es X.env := by rfl) : SM X B W (e :: es) (owM f k) := by
  refine PA.imp (pa_cons (t := fun σ H Q => ∃ B' : Bs, B'.K = B.K ∧ tM B' W k σ H Q) ha ⟨fun z pins s σ H Q I ⟨B', hB, q⟩ => (hr B' hB).run z pins s σ H Q I q⟩ hs) fun σ H Q ⟨M, s, r, p⟩ => ?_
  refine ⟨M, s, r, PostM.bindN p fun x s1 M1 H1 v r1 q1 ev1 p1 => ?_⟩
  have out := q1.out r1
  obtain ⟨xs, h1, h2, h3, h4, hL, h5⟩ := q1
  refine ⟨B.lock v (.lst xs), rfl, M1, s1, r1.locked h1 h2 out, ?_⟩
  cases hk : k s1 with
  | no => rw [hk] at p1; exact p1
  | er x s2 =>
    rw [hk] at p1
    exact fun cls od H' M' a b => p1 cls od H' M' (a.unlock hL) b
  | ok ys s2 =>
    rw [hk] at p1
    exact fun vs H2 M2 B' r2 l2 ev2 => p1 (.ref v :: vs) H2 M2 B' r2 (.ow hL h3 (h4.move r1.mo ev2) l2) ev2
/-- the names take the parts -/
def parMG (is : List Nat) (k : F (List AR)) : G := fun s => (k s).out fun as s1 => match putA is as s1 with
  | some s2 => .nx s2
  | none => .no
theorem PostM.outS {r : R (List AR)} {g : List AR → G} {E : Ends} {Q1 : List V → Hp → Prop} (h : PostS B W M H (r.out g) E)
    (k : ∀ as s1 M1 H1 vs, SR B M1 σ H1 s1 → Os B σ s1 M1 H1 vs as → Ev M H M1 H1 → PostS B W M1 H1 (g as s1) E → Q1 vs H1) : PostM B W M H σ r Q1 := by
  cases r with
  | ok as s' => exact fun vs H2 M2 B' r2 l2 ev2 => let ⟨a, b⟩ := l2.unl r2; k as s' M2 H2 vs a b ev2 (PostS.later h ev2)
  | er x s' => exact fun cls od H' M' a b => h cls od σ H' M' a b
  | no => exact h
theorem ss_par2M {k : F (List AR)} {a b : Expr} {i j : Nat} {x y : Str} {px py pt : Pos} {kt k2 pt2} (hc : X.calm = true) (hN : X.N.Nodup) (hi : X.N[i]? = some x) (hj : X.N[j]? = some y) (hij : i ≠ j) (hx : X.env.scope.names.lookup x = some .local) (hy : X.env.scope.names.lookup y = some .local) (ha : SM X B W [a, b] k)
    (hw : swappedStores [.Tuple [.Name x px, .Name y py] kt pt] (.Tuple [a, b] k2 pt2) X.env = pure (some [x, y]))
    (hs : swapsWithSole [.Tuple [.Name x px, .Name y py] kt pt] (.Tuple [a, b] k2 pt2) pos.line X.env = pure false := by rfl) : SS X B W (.Assign [.Tuple [.Name x px, .Name y py] kt pt] (.Tuple [a, b] k2 pt2) pos) (parMG [i, j] k) := by
  refine PS.imp (ps_par hc hN hi hj hij hx hy ha hw hs) fun E σ H ⟨M, s, r, p⟩ => ⟨M, s, r, PostM.outS p fun as s1 M1 H1 vs r1 q1 ev1 p1 => ?_⟩
  split at p1
  · rename_i s2 e2
    have r2 := q1.put r1 e2
    match as, vs, q1.len, e2 with
    | [a, b], [u, v], _, _ => exact ⟨u, v, rfl, p1 _ H1 M1 r2 .rfl⟩
    | [], _, _, e => cases e
    | [a], _, _, e => unfold putA at e; split at e <;> cases e
    | a :: b :: c :: _, _, _, e => unfold putA at e; split at e; unfold putA at e; split at e; all_goals cases e
  · exact p1.elim
theorem ss_par3M {k : F (List AR)} {a b c : Expr} {i j l : Nat} {x y z : Str} {px py pz pt : Pos} {kt k2 pt2} (hc : X.calm = true) (hN : X.N.Nodup) (hi : X.N[i]? = some x) (hj : X.N[j]? = some y) (hl : X.N[l]? = some z) (hij : i ≠ j) (hil : i ≠ l) (hjl : j ≠ l) (hx : X.env.scope.names.lookup x = some .local) (hy : X.env.scope.names.lookup y = some .local) (hz : X.env.scope.names.lookup z = some .local) (ha : SM X B W [a, b, c] k)
    (hw : swappedStores [.Tuple [.Name x px, .Name y py, .Name z pz] kt pt] (.Tuple [a, b, c] k2 pt2) X.env = pure (some [x, y, z]))
    (hs : swapsWithSole [.Tuple [.Name x px, .Name y py, .Name z pz] kt pt] (.Tuple [a, b, c] k2 pt2) pos.line X.env = pure false := by rfl) : SS X B W (.Assign [.Tuple [.Name x px, .Name y py, .Name z pz] kt pt] (.Tuple [a, b, c] k2 pt2) pos) (parMG [i, j, l] k) := by
  refine PS.imp (ps_par3 hc hN hi hj hl hij hil hjl hx hy hz ha hw hs) fun E σ H ⟨M, s, r, p⟩ => ⟨M, s, r, PostM.outS p fun as s1 M1 H1 vs r1 q1 ev1 p1 => ?_⟩
  split at p1
  · rename_i s2 e2
    have r2 := q1.put r1 e2
    match as, vs, q1.len, e2 with
    | [a, b, c], [u, v, w], _, _ => exact ⟨u, v, w, rfl, p1 _ H1 M1 r2 .rfl⟩
    | [], _, _, e => cases e
    | [a], _, _, e => unfold putA at e; split at e <;> cases e
    | [a, b], _, _, e => unfold putA at e; split at e; unfold putA at e; split at e; all_goals cases e
    | a :: b :: c :: d :: _, _, _, e => unfold putA at e; split at e; unfold putA at e; split at e; unfold putA at e; split at e; all_goals cases e
  · exact p1.elim
end
/-! ### one or the other reading of an operator -/
def orD (f g : D → D → Option D) (x y : D) : Option D := match f x y with
  | some z => some z
  | none => g x y
theorem op_orD {X : Cx} {K : PySem.W.Frag} {o : Value → Value → Sem Value} {f g : D → D → Option D} (h1 : ∃ r, OpR X o r ∧ Op2 K r f) (h2 : ∃ r, OpR X o r ∧ Op2 K r g) : ∃ r, OpR X o r ∧ Op2 K r (orD f g) := by
  obtain ⟨r1, a1, b1⟩ := h1
  obtain ⟨r2, a2, b2⟩ := h2
  refine ⟨_, OpR.or a1 a2, fun x y d e M H v u Q m qx qy k => ?_⟩
  unfold orD at e
  split at e
  · rename_i z hz
    cases e
    exact .inl (b1 x y _ hz M H v u Q m qx qy k)
  · exact .inr (b2 x y d e M H v u Q m qx qy k)
end Fx

set_option Elab.async false
set_option linter.all false
set_option maxRecDepth 100000
namespace PySem.W
open PyProof.Rows L2
section
variable {prog : Program} {w : World} {A A₀ : Around} {E : Value → Shared → Prop} {s : Shared} {K : Frag} {x C L f : Addr} {h₀ : Heap} {m : Str → Option Value} {ox : Obj} {od : Option Obj} {name : Str} {b tb : Value}
theorem ifBoundB_K {M : Model} {id : String} {args : List Value} {Q : Option Value → Shared → Prop} (X : K.In s.heap) (I : InstAt s.heap x ox C od) (hs : findIn K (.ref C) name = some (some (.builtin id))) (hb : ∀ self, bindSpecial (.builtin id) self = pure (.builtin id, [self]))
    (h : wpAny M A (call (.builtin id) (.ref x :: args)) (fun v => Q (some v)) E s) : wpAny M A (callSpecialIfBound? (.ref x) name args) Q E s := by
  simp only [callSpecialIfBound?, bindSpecialIfBound?]
  refine wpAny_holding (wpAny_bind (wpAny_bind (wpAny_bind (I.type.here ((looks_findIn X hs).here ?_)))))
  simp only [hb]
  refine wpAny_bind (wpAny_askSetting (wpAny_ite ?_))
  have fin : wpAny M A (call (.builtin id) ([.ref x] ++ args) >>= fun v => pure (some v)) Q E s := wpAny_bind (wpAny_mono h (fun v s' h' => wpAny_pure h') fun _ _ h' => h')
  split
  · exact wpAny_bind (wpAny_pure (wpAny_pure fin))
  · exact wpAny_tryCatch (wpAny_bind (wpAny_pure (wpAny_pure fin)))
theorem check_K {M : Model} {id owner n : String} {rest : List Value} {Q : Unit → Shared → Prop} (X : K.In s.heap) (I : InstAt s.heap x ox C od) (hm : mroIn K C (.type owner) = some true) (hk : builtinKind id = some .slot) (hs : splitId id = some (owner, n))
    (ha : argsOk id ⟨.ref x :: rest, []⟩) (hq : Q () s) : wpAny M A (checkBuiltinCall id ⟨.ref x :: rest, []⟩) Q E s := by
  obtain ⟨hh, g, dr, t, os⟩ := s
  have L0 := I.type (M := M)
  have L1 := looks_mroIn (M := M) X hm
  simp only [checkBuiltinCall, hk, hs]
  refine wpAny_bind ?_
  unfold isInstance
  repeat lk
  cases hsig : Manifest.signature? id with
  | none => exact wpAny_pure hq
  | some sig =>
    simp only [argsOk, hsig] at ha
    have h2 : Bind.checkArgs id sig ⟨.ref x :: rest, []⟩ = pure () := ha
    show wpAny M A (Bind.checkArgs id sig ⟨.ref x :: rest, []⟩) Q E _
    rw [h2]; exact wpAny_pure hq
theorem ne_entry {Q : Fin → Shared → Prop} (X : K.In s.heap) (I : InstAt s.heap x ox C od) (hs : findIn K (.ref C) "__eq__" = some (some (.ref f))) (hf : isFn K (.ref f) = true) (hu : A.units < cLine)
    (hcall : wpAny (model prog w) A (call (.ref f) [.ref x, b]) (fun v s' => ∃ c, v = .bool c ∧ Q (.done (.ret (.bool (!c)))) s') E s) :
    wpAny (model prog w) A (Builtin.«object.__ne__» ⟨[.ref x, b], []⟩) Q E s := by
  obtain ⟨hh, g, dr, t, os⟩ := s
  unfold Builtin.«object.__ne__»
  repeat (first
    | with_reducible refine wpAny_cRoomFor hu ?_
    | (refine wpAny_bind (m := callSpecialIfBound? (.ref x) (Str.ofString "__eq__") [b])
        (ifBound_K X I hs hf (wpAny_mono hcall (fun r s' hr => by
          obtain ⟨b, rfl, hq⟩ := hr
          repeat (first | exact hq | exact wpAny_pure hq | exact wpAny_truthy_bool hq | (refine wpAny_bind (m := truthy (.bool _)) (wpAny_truthy_bool ?_)) | wp_step)) fun _ _ e => e)))
    | wp_step)
/-- x != y, x of a class with an own __eq__ and no own __ne__ -/
theorem ne_K {Q : Value → Shared → Prop} (hu : A.units + 1 < cLine) (F : Fr h₀ L s.heap m) (X₀ : K.In h₀) (I : InstAt s.heap x ox C od) (hb : Looks (model prog w) s.heap (typeOf b) tb) (hn : notFirst K C tb = true)
    (hs : findIn K (.ref C) "__eq__" = some (some (.ref f))) (hf : isFn K (.ref f) = true) (hne : findIn K (.ref C) "__ne__" = some (some (.builtin "object.__ne__"))) (hm : mroIn K C (.type "object") = some true)
    (h : wpAny (model prog w) A.in1 (call (.ref f) [.ref x, b]) (fun v s' => ∃ c, v = .bool c ∧ Q (.bool (!c)) s') E s) : wpAny (model prog w) A (richCompare .NotEq (.ref x) b) Q E s := by
  have X := X₀.keeps F.keep
  have one : wpAny (model prog w) A (tryCompare (.ref x) "__ne__" b) (fun r s' => ∃ v, r = some v ∧ Q v s') E s := by
    simp only [tryCompare]
    refine wpAny_bind (ifBoundB_K X I hne PySem.F.cmp_object.ne.bind (wpAny_call (codeAny_call_builtin PySem.F.cmp_object.ne.plain PySem.F.cmpEntry_ne (check_K X I hm PySem.F.cmpKind_ne PySem.F.cmpSplit_ne (PySem.F.cmpArgs_ne _ _) ?_))))
    refine ne_entry (A := A.in1) X I hs hf hu (wpAny_mono h (fun v s' hv => ?_) fun _ _ e => e)
    obtain ⟨c, rfl, hq⟩ := hv
    first | exact ⟨c, rfl, wpAny_pure ⟨_, rfl, hq⟩⟩ | exact ⟨c, rfl, wpAny_pure (wpAny_pure ⟨_, rfl, hq⟩)⟩ | exact ⟨c, rfl, ⟨_, rfl, hq⟩⟩
  unfold richCompare
  simp only [oneThing_ref]
  refine wpAny_holding (wpAny_bind (wpAny_cRoomFor (Nat.lt_of_succ_lt hu) ?_))
  refine wpAny_bind (I.type.here (wpAny_bind (hb.here ?_)))
  rw [cmpInfo_NotEq]
  split
  · rename_i q
    have e : subIn K tb (.ref C) = some false := by
      rcases Bool.or_eq_true_iff.mp hn with e | e
      · rw [beq_iff_eq.mp e] at q; simp at q
      · exact beq_iff_eq.mp e
    refine wpAny_bind ((looks_subIn X e).here ?_)
    simp only [Bool.false_eq_true, if_false]
    refine wpAny_bind (wpAny_mono one (fun r s' z => ?_) fun _ _ e => e)
    obtain ⟨v, rfl, hq⟩ := z
    exact wpAny_pure hq
  · refine wpAny_bind (wpAny_pure ?_)
    simp only [Bool.false_eq_true, if_false]
    refine wpAny_bind (wpAny_mono one (fun r s' z => ?_) fun _ _ e => e)
    obtain ⟨v, rfl, hq⟩ := z
    exact wpAny_pure hq
end
end PySem.W
namespace Fx
open PySem L2 PyProof.Rows
section
variable {X : Cx} {B : Bs} {W : WX} {k n : Nat} {f : Addr} {fd : FuncData} {ps ks : List Str} {sp : Sp} {E : L2.St → XK} {x : Str} {p pos : Pos} {e : Expr} {es : List Expr} {kws : List Keyword} {t tk : TA} {g : List Value → List Value → List Value} {gV : List V → List V → List V}
theorem run_fnT1 {pins : List (Addr × Obj)} {σ : L2.St} {H : Hp} {s : Shared} {Q : VK} {us ws : List Value} {vs zs : List V} (F : FnG X.prog X.w X.K X.mg X.base k f fd ps sp) (hr : Room k X.A.in1) (hq : X.A.guards = some []) (hb : KBinds X.K fd ps ks g gV) (hx : PassesAt (L2.CX X.prog X.w) X σ (E σ))
    (I : Inv X pins σ H s) (r : Vals vs us) (rz : Vals zs ws) (h : sp (gV vs zs) H Q (E σ)) : wpAny (model X.prog X.w) X.A.in1 (call (.ref f) us (ks.zip ws)) (EP X pins σ Q) X.xe s := by
  have r2 := hb.rel r rz
  have hl : (g us ws).length = ps.length := by rw [← r2.length]; exact F.len _ _ _ _ h
  refine wpAny_call (codeAny_mono (F.run X.A.in1 X.stack s H ⟨us, ks.zip ws⟩ (g us ws) (gV vs zs) Q (E σ) hr hq I.env0.in1 (hb.to s us ws I.kIn hl) r2 h) fun r s' hq => ?_)
  cases r with
  | error e => exact hx pins H s e s' I hq
  | ok fl =>
    cases fl with
    | ret u => exact I.after hq
    | next => exact False.elim hq
    | brk => exact False.elim hq
    | cont => exact False.elim hq
end
structure NeK (K : PySem.W.Frag) (cn : Str) : Prop where
  ex : ∃ C, ClsAt K cn C ∧ PySem.W.findIn K (.ref C) "__ne__" = some (some (.builtin "object.__ne__")) ∧ PySem.W.mroIn K C (.type "object") = some true
def neOwnD (cn : Str) (oks : List Str) (Fn : List D → FR) (x y : D) : Option D := match x with
  | .ins c fs => if c = cn ∧ okY oks y = true then match Fn [.ins c fs, y] with
    | .ret (.bl b) _ => some (.bl (!b))
    | _ => none
    else none
  | _ => none
section
variable {X : Cx}
def rNeOwn (X : Cx) (cn : Str) (oks : List Str) (Fn : List D → FR) : R2 := fun x y H Q => ∃ (M : MS) (c e : D) (b : Bool) (ios : MO), MOk M H ∧ Rp X.K M H x c ∧ Rp X.K M H y e ∧ (∃ fs, c = .ins cn fs) ∧ okY oks e = true ∧ Fn [c, e] = .ret (.bl b) ios ∧ ∀ H', Same H H' → Q (.bl (!b)) H'
theorem op_neOwn {P : Program} {w : World} {K : PySem.W.Frag} {mg : Str → Option Value} {base : Heap} {cn qual : Str} {st : Stmt} {k j : Nat} {ps : List Str} {Fn : List D → FR} {oks : List Str} (kn : MKn P w K mg base cn "__eq__" qual st k false ps Fn)
    (hX : X.prog = P ∧ X.w = w ∧ X.K = K ∧ X.mg = mg ∧ X.base = base) (hr : Room j X.A) (hk : k + 1 ≤ j) (hq : X.A.guards = some []) (ek : EqK K cn oks) (nk : NeK K cn) (hp : ps.length = 2)
    (h : ∀ (kV doc pm : Value) (an : Option Addr) (cdv ct : Value) (us ws : List Value), us.length = ps.length → ws.length = ([] : List Str).length → bindArgs (PySem.W.fnOf "__eq__" qual (defArgs st) (defBody st) (defScope st) .none kV doc pm an cdv ct) ⟨us, ([] : List Str).zip ws⟩ = pure (ps.zip ((List.range ps.length).filterMap fun i => (us ++ ws ++ [])[i]?))) :
    ∃ r, OpR X (compareOp .NotEq) r ∧ Op2 X.K r (neOwnD cn oks Fn) := by
  obtain ⟨rfl, rfl, rfl, rfl, rfl⟩ := hX
  refine ⟨rNeOwn X cn oks Fn, ?_, fun x y d e M H v u Q m qx qy kk => ?_⟩
  · intro pins s σ H x y v u Q I rx ry ⟨M, c, e, b, ios, m, qx, qy, ⟨fs, hc⟩, hy, hF, q⟩
    subst hc
    obtain ⟨C, f, fd, hC, cl, hm, F, G⟩ := kn.ex
    obtain ⟨C2, hC2, e1, e2⟩ := ek.ex
    cases hC.uniq hC2
    obtain ⟨C4, hC4, n1, n2⟩ := nk.ex
    cases hC.uniq hC4
    have qx0 := qx
    cases qx0 with
    | @ins a C' dx _ vs _ h1 h2 h3 h4 h5 =>
    cases hC.uniq h3
    cases rx
    obtain ⟨mA, J, _⟩ := ins_get I.hok h1
    obtain ⟨od, J, _⟩ := J.look
    obtain ⟨mm, hFr⟩ := I.fr
    have lk : ∃ tb, PySem.W.Looks (model X.prog X.w) s.heap (typeOf u) tb ∧ PySem.W.notFirst X.K C tb = true := by
      have base : ∀ t, tyD e = some t → ∃ tb, PySem.W.Looks (model X.prog X.w) s.heap (typeOf u) tb ∧ PySem.W.notFirst X.K C tb = true := fun t ht => ⟨_, qy.looks rfl I ry ht, e2 t (tyD_base ht)⟩
      cases e with
      | ins n gs =>
        obtain ⟨C3, hC3, hn⟩ := e1 n (by simpa [okY] using hy)
        cases qy with
        | @ins a' C'' dx' _ vs' _ g1 g2 g3 g4 g5 =>
          cases hC3.uniq g3
          cases ry
          obtain ⟨mB, J', _⟩ := ins_get I.hok g1
          obtain ⟨od', J', _⟩ := J'.look
          exact ⟨_, J'.type, hn⟩
      | non => exact base _ rfl
      | bl _ => exact base _ rfl
      | int _ => exact base _ rfl
      | str _ => exact base _ rfl
      | lst _ => exact base _ rfl
      | tup _ => exact base _ rfl
      | _ => exact absurd hy (by simp [okY, tyD])
    obtain ⟨tb, hb, hn⟩ := lk
    have hu1 : X.A.units + 1 < cLine := by have := hr.units; omega
    refine PySem.W.ne_K (tb := tb) hu1 hFr I.ok.mod.kin J hb hn hm.at_ hm.fn n1 n2 ?_
    have hsp : spF X.K false ps.length Fn (pickG ps.length 0 [] (List.range ps.length) [.ref a, y] []) H (fun v H' => v = .bl b ∧ Same H H') (fun _ _ _ => False) := by
      have hl : ([V.ref a, y]).length = ps.length := hp.symm
      rw [pick_range hl]
      refine ⟨hl, M, [.ins cn fs, e], m, .cons qx (.cons qy .nil), ?_⟩
      rw [hF]
      intro v H' st _ qv
      cases qv
      exact ⟨rfl, same_of rfl st⟩
    refine wpAny_mono (run_fnT1 (E := fun _ _ _ _ => False) (us := [.ref a, u]) (vs := [.ref a, y]) (ks := []) (ws := []) (zs := []) G (hr.mono hk).in1 hq (Fun.kb (ks := []) F (by omega) h) (fun _ _ _ _ _ _ c => by
      obtain ⟨_, _, _, _, _, _, _, _, _, _, _, _, z⟩ := c
      exact z.elim) I (.cons rfl (.cons ry .nil)) .nil hsp) (fun r s' hr' => ?_) fun _ _ z => z
    obtain ⟨z, H', J2, rz, ez, sm⟩ := hr'
    subst ez
    cases rz
    exact ⟨b, rfl, .bl (!b), H', J2, rfl, q H' sm⟩
  · unfold neOwnD at e
    split at e
    · split at e
      · rename_i c fs hc
        split at e
        · rename_i b ios hF
          cases e
          obtain ⟨rfl, hy⟩ := hc
          exact ⟨M, _, _, b, ios, m, qx, qy, ⟨fs, rfl⟩, hy, hF, fun H' sm => kk _ H' sm (.bl (!b))⟩
        · cases e
      · cases e
    · cases e
end
end Fx

set_option Elab.async false
set_option linter.all false
set_option maxRecDepth 100000
namespace Fx
open PySem L2 PyProof.Rows
/-! ### more steps (for simp) -/
section
variable {s : List Sl} {i n : Nat} {d x y : D} {ds as : List D} {f g h : F D} {k kk : F (List D)} {u v : F Bool} {a : AS} {G1 G2 : G}
theorem ev_fld {ns : List Str} {nm : Str} : fldF ns nm g s = (g s).bind fun d s1 => match d with
  | .ins n fs => if n ∈ ns then toR (fs.lookup nm) s1 else .no
  | _ => .no := rfl
theorem ev_insAt : insAt s i = match s[i]? with
  | some (.va (.ins n fs)) => some (n, fs)
  | some (.ow (.i n fs)) => some (n, fs)
  | some (.io (.i n fs)) => some (n, fs)
  | _ => none := rfl
theorem ev_fldOwn {ns : List Str} {nm : Str} : fldOwnF i ns nm s = match insAt s i with
  | some (n, fs) => if n ∈ ns then toR (fs.lookup nm) s else .no
  | none => .no := rfl
theorem ev_fldG {ns : List Str} {nm : Str} : fldG i ns nm g s = (g s).out fun d s1 => match s1[i]? with
  | some (.ow (.i n fs)) => if n ∈ ns ∧ fs.length < 1000 then .nx (s1.set i (.ow (.i n (putD nm d fs)))) else .no
  | some (.io (.i n fs)) => if n ∈ ns ∧ fs.length < 1000 then .nx (s1.set i (.io (.i n (putD nm d fs)))) else .no
  | _ => .no := rfl
theorem ev_meth {cn m : Str} {Fn : List D → FR} {gD : List D → List D → List D} : methF cn m Fn n gD g k kk s = (g s).bind fun d s1 => match d with
  | .ins c fs => if c = cn ∧ fs.lookup m = none then (k s1).bind fun ds s2 => (kk s2).bind fun es s3 => if (gD (.ins c fs :: ds) es).length = n then ofFR (Fn (gD (.ins c fs :: ds) es)) (fun _ => s3) else .no else .no
  | _ => .no := rfl
theorem ev_make {cn : Str} {Fi : List D → FR} : makeF cn Fi n k s = (k s).bind fun ds s1 => if ds.length + 1 = n then match madeR cn (Fi (.ins cn [] :: ds)) with
    | some (.inl fs) => .ok (.ins cn fs) s1
    | some (.inr x) => .er x s1
    | none => .no
  else .no := rfl
theorem ev_callL {Fn : List D → FR} {fa : FA} : callLF Fn n fa s = match fa s with
  | some ds => if ds.length = n then match Fn ds with
    | .ret d _ => if noL d = true then .ok d s else .no
    | .retn es _ => if noLL es = true then .ok (.lst es) s else .no
    | _ => .no
    else .no
  | none => .no := rfl
theorem ev_noLI {j : Int} : noL (.int j) = true := rfl
theorem ev_nilL : nilL s = some [] := rfl
theorem ev_nameL {fa : FA} : nameL i fa s = match s[i]?, fa s with
  | some (.va d), some ds => some (d :: ds)
  | _, _ => none := rfl
theorem ev_lendL {fa : FA} : lendL i fa s = match s[i]?, fa s with
  | some (.ow m), some ds => some (m.d :: ds)
  | some (.io m), some ds => some (m.d :: ds)
  | some (.va d), some ds => some (d :: ds)
  | _, _ => none := rfl
theorem ev_conL {fa : FA} : conL d fa s = (fa s).map (d :: ·) := rfl
theorem ev_augIx {o : D → D → Option D} : augIxG i o g f s = match ownAt s i with
  | none => .no
  | some _ => (g s).out fun j s1 => match j, ownAt s1 i with
    | .int j, some ds => if 0 ≤ j then match ds[j.toNat]? with
      | some x => (f s1).out fun y s2 => match o x y with
        | some z => match ownPutAt s2 i j.toNat z with
          | some s3 => .nx s3
          | none => .no
        | none => .no
      | none => .no
      else .no
    | _, _ => .no := rfl
theorem ev_putAt {z : D} : ownPutAt s i n z = match ownAt s i with
  | some ds => if n < ds.length then ownPut s i (ds.set n z) else none
  | none => none := rfl
theorem ev_iadd {i j : Int} : iaddD (.int i) (.int j) = some (.int (i + j)) := rfl
theorem ev_isub {i j : Int} : isubD (.int i) (.int j) = some (.int (i - j)) := rfl
theorem ev_revT : revTF f s = (f s).bind fun d s1 => match d with
  | .tup ds => .ok (.tup ds.reverse) s1
  | _ => .no := rfl
theorem ev_enum : enumF f s = (f s).bind fun d s1 => match seqD d with
  | some ds => .ok (enumD ds) s1
  | none => .no := rfl
theorem ev_zip : zipF f g s = (f s).bind fun d s1 => (g s1).bind fun d2 s2 => match seqD d, seqD d2 with
  | some ds, some es => .ok (zipD ds es) s2
  | _, _ => .no := rfl
theorem ev_seqDL : seqD (.lst ds) = some ds := rfl
theorem ev_seqDT : seqD (.tup ds) = some ds := rfl
theorem ev_nilM : nilM s = .ok [] s := rfl
theorem ev_vaM {km : F (List AR)} : vaM f km s = (f s).bind fun x s1 => (km s1).bind fun xs s2 => .ok (.va x :: xs) s2 := rfl
theorem ev_owM {km : F (List AR)} : owM k km s = (k s).bind fun x s1 => (km s1).bind fun xs s2 => .ok (.ow x :: xs) s2 := rfl
theorem ev_parM {is : List Nat} {km : F (List AR)} : parMG is km s = (km s).out fun as s1 => match putA is as s1 with
  | some s2 => .nx s2
  | none => .no := rfl
theorem ev_app : appG i f s = match ownAt s i with
  | none => .no
  | some _ => (f s).out fun y s1 => match ownAt s1 i with
    | some ds => if ds.length < sizeLine then match ownPut s1 i (ds ++ [y]) with
      | some s2 => .nx s2
      | none => .no
      else .no
    | none => .no := rfl
end

/-! ### equality of plain data -/
mutual
def nbP : PyData → Bool
  | .none => true
  | .int _ => true
  | .str _ => true
  | .list xs => nbPL xs
  | .tuple xs => nbPL xs
  | _ => false
def nbPL : List PyData → Bool
  | [] => true
  | x :: xs => nbP x && nbPL xs
end
mutual
theorem inj_py : ∀ (p q : PyData), nbP p = true → nbP q = true → PyData.eqv p q = true → p = q
  | .none, q, _, hq, h => by
    cases q <;> first | rfl | (exfalso; revert h; unfold PyData.eqv; intro h; cases h)
  | .int i, q, _, hq, h => by
    cases q with
    | int j =>
      unfold PyData.eqv at h
      rw [eq_of_beq h]
    | bool b => unfold nbP at hq; cases hq
    | _ => exfalso; revert h; unfold PyData.eqv; intro h; cases h
  | .str i, q, _, hq, h => by
    cases q with
    | str j =>
      unfold PyData.eqv at h
      rw [eq_of_beq h]
    | _ => exfalso; revert h; unfold PyData.eqv; intro h; cases h
  | .list xs, q, hp, hq, h => by
    cases q with
    | list ys =>
      unfold PyData.eqv at h
      unfold nbP at hp hq
      rw [inj_pyL xs ys hp hq h]
    | _ => exfalso; revert h; unfold PyData.eqv; intro h; cases h
  | .tuple xs, q, hp, hq, h => by
    cases q with
    | tuple ys =>
      unfold PyData.eqv at h
      unfold nbP at hp hq
      rw [inj_pyL xs ys hp hq h]
    | _ => exfalso; revert h; unfold PyData.eqv; intro h; cases h
  | .bool b, q, hp, _, _ => by unfold nbP at hp; cases hp
  | .dict b, q, hp, _, _ => by unfold nbP at hp; cases hp
theorem inj_pyL : ∀ (p q : List PyData), nbPL p = true → nbPL q = true → PyData.eqvAll p q = true → p = q
  | [], [], _, _, _ => rfl
  | [], y :: ys, _, _, h => by unfold PyData.eqvAll at h; cases h
  | x :: xs, [], _, _, h => by unfold PyData.eqvAll at h; cases h
  | x :: xs, y :: ys, hp, hq, h => by
    unfold PyData.eqvAll at h
    unfold nbPL at hp hq
    rw [Bool.and_eq_true] at h hp hq
    rw [inj_py x y hp.1 hq.1 h.1, inj_pyL xs ys hp.2 hq.2 h.2]
end
/-! data that == compares; no True, False in it -/
mutual
def laD : D → Bool
  | .non => true
  | .int _ => true
  | .bl _ => true
  | .str x => PyData.strOk x
  | .tup xs => laDL xs
  | .lst xs => laDL xs
  | _ => false
def laDL : List D → Bool
  | [] => true
  | x :: xs => laD x && laDL xs
end
mutual
def nbD : D → Bool
  | .bl _ => false
  | .tup xs => nbDL xs
  | .lst xs => nbDL xs
  | _ => true
def nbDL : List D → Bool
  | [] => true
  | x :: xs => nbD x && nbDL xs
end
mutual
theorem la_py : ∀ d : D, laD d = true → ∃ p, toPy d = some p ∧ p.canLay0 = true ∧ p.depth = shDp d ∧ (nbD d = true → nbP p = true)
  | .non, _ => ⟨.none, rfl, by simp only [PyData.canLay0], by simp only [PyData.depth, shDp], fun _ => by simp only [nbP]⟩
  | .int i, _ => ⟨.int i, rfl, by simp only [PyData.canLay0], by simp only [PyData.depth, shDp], fun _ => by simp only [nbP]⟩
  | .bl b, _ => ⟨.bool b, rfl, by simp only [PyData.canLay0], by simp only [PyData.depth, shDp], fun h => by simp [nbD] at h⟩
  | .str x, h => ⟨.str x, rfl, by simp only [PyData.canLay0]; exact h, by simp only [PyData.depth, shDp], fun _ => by simp only [nbP]⟩
  | .tup xs, h => by
    unfold laD at h
    obtain ⟨ps, e, h1, h2, h3⟩ := la_pyL xs h
    exact ⟨.tuple ps, by unfold toPy; rw [e]; rfl, by simp only [PyData.canLay0]; exact h1, by simp only [PyData.depth, shDp]; rw [h2], fun hn => by unfold nbD at hn; simp only [nbP]; exact h3 hn⟩
  | .lst xs, h => by
    unfold laD at h
    obtain ⟨ps, e, h1, h2, h3⟩ := la_pyL xs h
    exact ⟨.list ps, by unfold toPy; rw [e]; rfl, by simp only [PyData.canLay0]; exact h1, by simp only [PyData.depth, shDp]; rw [h2], fun hn => by unfold nbD at hn; simp only [nbP]; exact h3 hn⟩
  | .ref _, h => by simp [laD] at h
  | .ty _, h => by simp [laD] at h
  | .fz _, h => by simp [laD] at h
  | .ins _ _, h => by simp [laD] at h
theorem la_pyL : ∀ ds : List D, laDL ds = true → ∃ ps, toPyL ds = some ps ∧ PyData.canLayAll0 ps = true ∧ PyData.depthAll ps = shDpL ds ∧ (nbDL ds = true → nbPL ps = true)
  | [], _ => ⟨[], rfl, by simp only [PyData.canLayAll0], by simp only [PyData.depthAll, shDpL], fun _ => by simp only [nbPL]⟩
  | d :: ds, h => by
    unfold laDL at h
    rw [Bool.and_eq_true] at h
    obtain ⟨p, e, a1, a2, a3⟩ := la_py d h.1
    obtain ⟨ps, e2, b1, b2, b3⟩ := la_pyL ds h.2
    exact ⟨p :: ps, by unfold toPyL; rw [e, e2], by simp only [PyData.canLayAll0, a1, b1, Bool.and_self], by simp only [PyData.depthAll, shDpL, a2, b2], fun hn => by
      unfold nbDL at hn
      rw [Bool.and_eq_true] at hn
      simp only [nbPL, a3 hn.1, b3 hn.2, Bool.and_self]⟩
end
mutual
theorem toPy_inj : ∀ (d e : D) (p : PyData), toPy d = some p → toPy e = some p → d = e
  | .non, e, p, h1, h2 => by
    cases h1
    cases e with
    | non => rfl
    | tup ys => unfold toPy at h2; cases h : toPyL ys <;> rw [h] at h2 <;> cases h2
    | lst ys => unfold toPy at h2; cases h : toPyL ys <;> rw [h] at h2 <;> cases h2
    | _ => cases h2
  | .bl b, e, p, h1, h2 => by
    cases h1
    cases e with
    | bl c => cases h2; rfl
    | tup ys => unfold toPy at h2; cases h : toPyL ys <;> rw [h] at h2 <;> cases h2
    | lst ys => unfold toPy at h2; cases h : toPyL ys <;> rw [h] at h2 <;> cases h2
    | _ => cases h2
  | .int b, e, p, h1, h2 => by
    cases h1
    cases e with
    | int c => cases h2; rfl
    | tup ys => unfold toPy at h2; cases h : toPyL ys <;> rw [h] at h2 <;> cases h2
    | lst ys => unfold toPy at h2; cases h : toPyL ys <;> rw [h] at h2 <;> cases h2
    | _ => cases h2
  | .str b, e, p, h1, h2 => by
    cases h1
    cases e with
    | str c => cases h2; rfl
    | tup ys => unfold toPy at h2; cases h : toPyL ys <;> rw [h] at h2 <;> cases h2
    | lst ys => unfold toPy at h2; cases h : toPyL ys <;> rw [h] at h2 <;> cases h2
    | _ => cases h2
  | .tup xs, e, p, h1, h2 => by
    unfold toPy at h1
    cases hx : toPyL xs with
    | none => rw [hx] at h1; cases h1
    | some ps =>
      rw [hx] at h1
      cases h1
      cases e with
      | tup ys =>
        unfold toPy at h2
        cases hy : toPyL ys with
        | none => rw [hy] at h2; cases h2
        | some qs =>
          rw [hy] at h2
          cases h2
          rw [toPyL_inj xs ys ps hx hy]
      | lst ys => unfold toPy at h2; cases h : toPyL ys <;> rw [h] at h2 <;> cases h2
      | _ => cases h2
  | .lst xs, e, p, h1, h2 => by
    unfold toPy at h1
    cases hx : toPyL xs with
    | none => rw [hx] at h1; cases h1
    | some ps =>
      rw [hx] at h1
      cases h1
      cases e with
      | lst ys =>
        unfold toPy at h2
        cases hy : toPyL ys with
        | none => rw [hy] at h2; cases h2
        | some qs =>
          rw [hy] at h2
          cases h2
          rw [toPyL_inj xs ys ps hx hy]
      | tup ys => unfold toPy at h2; cases h : toPyL ys <;> rw [h] at h2 <;> cases h2
      | _ => cases h2
  | .ref _, _, _, h, _ => by cases h
  | .ty _, _, _, h, _ => by cases h
  | .fz _, _, _, h, _ => by cases h
  | .ins _ _, _, _, h, _ => by cases h
theorem toPyL_inj : ∀ (ds es : List D) (ps : List PyData), toPyL ds = some ps → toPyL es = some ps → ds = es
  | [], es, ps, h1, h2 => by
    cases h1
    cases es with
    | nil => rfl
    | cons e es =>
      unfold toPyL at h2
      split at h2 <;> cases h2
  | d :: ds, es, ps, h1, h2 => by
    unfold toPyL at h1
    split at h1
    · rename_i p qs e1 e2
      cases h1
      cases es with
      | nil => cases h2
      | cons e es =>
        unfold toPyL at h2
        split at h2
        · rename_i p' qs' e3 e4
          cases h2
          rw [toPy_inj d e p e1 e3, toPyL_inj ds es qs e2 e4]
        · cases h2
    · cases h1
end
theorem eqG_same {d : D} (h : laD d = true) (h2 : shDp d ≤ 64) : eqG d d = some (.bl true) := by
  obtain ⟨p, e, a1, a2, _⟩ := la_py d h
  have sh : SeqAt.shaped p = true := by unfold SeqAt.shaped; rw [a1, a2, decide_eq_true h2]; rfl
  unfold eqG
  rw [e]
  dsimp only
  rw [if_pos ⟨sh, sh⟩, SeqAt.eqv_refl _ a1]
theorem neG_same {d : D} (h : laD d = true) (h2 : shDp d ≤ 64) : neG d d = some (.bl false) := by
  obtain ⟨p, e, a1, a2, _⟩ := la_py d h
  have sh : SeqAt.shaped p = true := by unfold SeqAt.shaped; rw [a1, a2, decide_eq_true h2]; rfl
  unfold neG
  rw [e]
  dsimp only
  rw [if_pos ⟨sh, sh⟩, SeqAt.eqv_refl _ a1]
  rfl
theorem eq_same {d : D} (h : laD d = true) (h2 : shDp d ≤ 64) : eqD d d = some (.bl true) := by
  cases d with
  | int i => show some (D.bl (decide (i = i))) = _; rw [decide_eq_true rfl]
  | str i => show some (D.bl (decide (i = i))) = _; rw [decide_eq_true rfl]
  | _ => exact eqG_same h h2
theorem ne_same {d : D} (h : laD d = true) (h2 : shDp d ≤ 64) : neD d d = some (.bl false) := by
  cases d with
  | int i => show some (D.bl (!decide (i = i))) = _; rw [decide_eq_true rfl]; rfl
  | str i => show some (D.bl (!decide (i = i))) = _; rw [decide_eq_true rfl]; rfl
  | _ => exact neG_same h h2
theorem eqv_diff {d e : D} {p q : PyData} (h1 : toPy d = some p) (h2 : toPy e = some q) (n1 : nbP p = true) (n2 : nbP q = true) (n : d ≠ e) : PyData.eqv p q = false := by
  cases h : PyData.eqv p q with
  | false => rfl
  | true =>
    have := inj_py p q n1 n2 h
    subst this
    exact absurd (toPy_inj d e p h1 h2) n
theorem eqG_diff {d e : D} (h : laD d = true) (h2 : shDp d ≤ 64) (h3 : nbD d = true) (k : laD e = true) (k2 : shDp e ≤ 64) (k3 : nbD e = true) (n : d ≠ e) : eqG d e = some (.bl false) ∧ neG d e = some (.bl true) := by
  obtain ⟨p, e1, a1, a2, a3⟩ := la_py d h
  obtain ⟨q, e2, b1, b2, b3⟩ := la_py e k
  have sh : SeqAt.shaped p = true := by unfold SeqAt.shaped; rw [a1, a2, decide_eq_true h2]; rfl
  have sk : SeqAt.shaped q = true := by unfold SeqAt.shaped; rw [b1, b2, decide_eq_true k2]; rfl
  unfold eqG neG
  rw [e1, e2]
  dsimp only
  rw [if_pos ⟨sh, sk⟩, if_pos ⟨sh, sk⟩, eqv_diff e1 e2 (a3 h3) (b3 k3) n]
  exact ⟨rfl, rfl⟩
theorem eq_diff {d e : D} (h : laD d = true) (h2 : shDp d ≤ 64) (h3 : nbD d = true) (k : laD e = true) (k2 : shDp e ≤ 64) (k3 : nbD e = true) (n : d ≠ e) : eqD d e = some (.bl false) ∧ neD d e = some (.bl true) := by
  have g := eqG_diff h h2 h3 k k2 k3 n
  have ii : ∀ i j : Int, d = .int i → e = .int j → eqD d e = some (.bl false) ∧ neD d e = some (.bl true) := fun i j e1 e2 => by
    subst e1 e2
    have n' : i ≠ j := fun z => n (by rw [z])
    refine ⟨?_, ?_⟩
    · show some (D.bl (decide (i = j))) = _; rw [decide_eq_false n']
    · show some (D.bl (!decide (i = j))) = _; rw [decide_eq_false n']; rfl
  have ss : ∀ i j : Str, d = .str i → e = .str j → eqD d e = some (.bl false) ∧ neD d e = some (.bl true) := fun i j e1 e2 => by
    subst e1 e2
    have n' : i ≠ j := fun z => n (by rw [z])
    refine ⟨?_, ?_⟩
    · show some (D.bl (decide (i = j))) = _; rw [decide_eq_false n']
    · show some (D.bl (!decide (i = j))) = _; rw [decide_eq_false n']; rfl
  cases d with
  | int i => cases e with
    | int j => exact ii i j rfl rfl
    | _ => exact g
  | str i => cases e with
    | str j => exact ss i j rfl rfl
    | _ => exact g
  | _ => exact g
/-! ### comprehensions that change nothing -/
theorem compL_pure {vs : List Nat} {a : AS} {u : F Bool} {f : F D} {h : D → D} {I : List Sl → Prop} : ∀ (ds : List D) (s : List Sl), I s → (∀ d ∈ ds, ∀ s, I s → ∃ s1 s2 s3, a d (wipeS s vs) = some s1 ∧ u s1 = .ok true s2 ∧ f s2 = .ok (h d) s3 ∧ I s3) →
    ∃ s', compL vs a u f ds s = .ok (ds.map h) s' ∧ I s'
  | [], s, i, _ => ⟨s, rfl, i⟩
  | d :: ds, s, i, k => by
    obtain ⟨s1, s2, s3, e1, e2, e3, i3⟩ := k d List.mem_cons_self s i
    obtain ⟨s', e4, i4⟩ := compL_pure (h := h) ds s3 i3 fun d hd => k d (List.mem_cons_of_mem _ hd)
    refine ⟨s', ?_, i4⟩
    rw [ev_compL1, e1]
    dsimp only
    rw [e2]
    dsimp only
    rw [e3]
    dsimp only
    rw [e4]
    rfl
/-- .. with the slots as they were -/
theorem compN_pure {vs : List Nat} {a : AS} {u : F Bool} {f : F D} {k : F (List D)} (h : D → D) {s s1 : List Sl} {ds : List D} (ek : k s = .ok ds s1) (hl : ds.length < sizeLine) (hv : vs.all (okC s1) = true) (I : List Sl → Prop) (h0 : I s1) (hr : ∀ s', I s' → restS s1 s' vs = s1)
    (hs : ∀ d ∈ ds, ∀ s, I s → ∃ s1 s2 s3, a d (wipeS s vs) = some s1 ∧ u s1 = .ok true s2 ∧ f s2 = .ok (h d) s3 ∧ I s3) : compN k vs a u f s = .ok (ds.map h) s1 := by
  obtain ⟨s', e, i⟩ := compL_pure (h := h) ds s1 h0 hs
  rw [ev_comp, ek, R.bind_ok, if_pos ⟨hl, hv⟩, e]
  dsimp only
  rw [hr s' i]
/-- the form with one own name at slot j -/
theorem compN_1 {j : Nat} {u : F Bool} {f : F D} {k : F (List D)} (h : D → D) {s s1 : List Sl} {ds : List D} (ek : k s = .ok ds s1) (hl : ds.length < sizeLine) {y0 : Sl} (hj : s1[j]? = some y0) (hp : Pl y0) (hu : u = yesT)
    (hs : ∀ d ∈ ds, f (s1.set j (.va d)) = .ok (h d) (s1.set j (.va d))) : compN k [j] (setA j) u f s = .ok (ds.map h) s1 := by
  subst hu
  have hlt : j < s1.length := (List.getElem?_eq_some_iff.mp hj).1
  refine compN_pure h ek hl ?_ (fun s' => ∃ y, Pl y ∧ s' = s1.set j y) ⟨y0, hp, ?_⟩ ?_ ?_
  · rw [List.all_cons, List.all_nil, Bool.and_true, ev_okC, hj]
    dsimp only
    rw [hp.2]
    rfl
  · refine (List.ext_getElem? fun i => ?_)
    by_cases e : j = i
    · subst e; rw [List.getElem?_set_self hlt, hj]
    · rw [List.getElem?_set_ne e]
  · rintro s' ⟨y, _, rfl⟩
    show ((s1.set j y).set j (s1.getD j .un)) = s1
    rw [List.set_set]
    refine (List.ext_getElem? fun i => ?_)
    by_cases e : j = i
    · subst e; rw [List.getElem?_set_self hlt, hj, List.getD_eq_getElem?_getD, hj]; rfl
    · rw [List.getElem?_set_ne e]
  · rintro d hd s ⟨y, hy, rfl⟩
    refine ⟨s1.set j (.va d), s1.set j (.va d), s1.set j (.va d), ?_, rfl, hs d hd, .va d, Pl.va, rfl⟩
    show setA j d ((s1.set j y).set j .un) = _
    rw [List.set_set, ev_setA, ev_ok, List.getElem?_set_self hlt]
    dsimp only
    rw [List.set_set]
    rfl
theorem forL_keep {a : AS} {G1 : G} {I : List Sl → Prop} (ds : List D) (s : List Sl) (h0 : I s) (h : ∀ d ∈ ds, ∀ s, I s → ∃ s1 s2, a d s = some s1 ∧ (G1 s1 = .nx s2 ∨ G1 s1 = .ct s2) ∧ I s2) : ∃ s', forL a G1 ds s = .nx s' ∧ I s' :=
  forL_run (I := fun _ => I) ds 0 s h0 fun j d s e i => h d (List.mem_of_getElem? e) s i
end Fx

set_option Elab.async false
set_option linter.all false
set_option maxRecDepth 100000
namespace Fx
open PySem L2 PyProof.Rows
section
variable {s : List Sl} {i j l n : Nat} {d x y : D} {ds as : List D} {f g h : F D} {k kk : F (List D)} {u v : F Bool} {a : AS} {G1 G2 : G}
theorem ev_par : parG i j k s = (k s).out fun ds s1 => match ds with
  | [x, y] => if okSl s1 i = true ∧ okSl (s1.set i (.va x)) j = true then .nx ((s1.set i (.va x)).set j (.va y)) else .no
  | _ => .no := rfl
theorem ev_par3 : par3G i j l k s = (k s).out fun ds s1 => match ds with
  | [x, y, z] => if okSl s1 i = true ∧ okSl (s1.set i (.va x)) j = true ∧ okSl ((s1.set i (.va x)).set j (.va y)) l = true then .nx (((s1.set i (.va x)).set j (.va y)).set l (.va z)) else .no
  | _ => .no := rfl
end
/-! ### comprehensions, by their sources -/
theorem compL_src {α : Type} {vs : List Nat} {a : AS} {u : F Bool} {f : F D} {p h : α → D} {I : List Sl → Prop} : ∀ (xs : List α) (s : List Sl), I s → (∀ x ∈ xs, ∀ s, I s → ∃ s1 s2 s3, a (p x) (wipeS s vs) = some s1 ∧ u s1 = .ok true s2 ∧ f s2 = .ok (h x) s3 ∧ I s3) →
    ∃ s', compL vs a u f (xs.map p) s = .ok (xs.map h) s' ∧ I s'
  | [], s, i, _ => ⟨s, rfl, i⟩
  | d :: ds, s, i, k => by
    obtain ⟨s1, s2, s3, e1, e2, e3, i3⟩ := k d List.mem_cons_self s i
    obtain ⟨s', e4, i4⟩ := compL_src (p := p) (h := h) ds s3 i3 fun d hd => k d (List.mem_cons_of_mem _ hd)
    refine ⟨s', ?_, i4⟩
    rw [List.map_cons, ev_compL1, e1]
    dsimp only
    rw [e2]
    dsimp only
    rw [e3]
    dsimp only
    rw [e4]
    rfl
theorem compN_src {α : Type} {vs : List Nat} {a : AS} {u : F Bool} {f : F D} {k : F (List D)} (p h : α → D) {s s1 : List Sl} {xs : List α} (ek : k s = .ok (xs.map p) s1) (hl : xs.length < sizeLine) (hv : vs.all (okC s1) = true) (I : List Sl → Prop) (h0 : I s1) (hr : ∀ s', I s' → restS s1 s' vs = s1)
    (hs : ∀ x ∈ xs, ∀ s, I s → ∃ s1 s2 s3, a (p x) (wipeS s vs) = some s1 ∧ u s1 = .ok true s2 ∧ f s2 = .ok (h x) s3 ∧ I s3) : compN k vs a u f s = .ok (xs.map h) s1 := by
  obtain ⟨s', e, i⟩ := compL_src (p := p) (h := h) xs s1 h0 hs
  rw [ev_comp, ek, R.bind_ok, if_pos ⟨by rw [List.length_map]; exact hl, hv⟩, e]
  dsimp only
  rw [hr s' i]
theorem compN_src1 {α : Type} {j : Nat} {u : F Bool} {f : F D} {k : F (List D)} (p h : α → D) {s s1 : List Sl} {xs : List α} (ek : k s = .ok (xs.map p) s1) (hl : xs.length < sizeLine) {y0 : Sl} (hj : s1[j]? = some y0) (hp : Pl y0) (hu : u = yesT)
    (hs : ∀ x ∈ xs, f (s1.set j (.va (p x))) = .ok (h x) (s1.set j (.va (p x)))) : compN k [j] (setA j) u f s = .ok (xs.map h) s1 := by
  subst hu
  have hlt : j < s1.length := (List.getElem?_eq_some_iff.mp hj).1
  refine compN_src p h ek hl ?_ (fun s' => ∃ y, Pl y ∧ s' = s1.set j y) ⟨y0, hp, ?_⟩ ?_ ?_
  · rw [List.all_cons, List.all_nil, Bool.and_true, ev_okC, hj]
    dsimp only
    rw [hp.2]
    rfl
  · refine (List.ext_getElem? fun i => ?_)
    by_cases e : j = i
    · subst e; rw [List.getElem?_set_self hlt, hj]
    · rw [List.getElem?_set_ne e]
  · rintro s' ⟨y, _, rfl⟩
    show ((s1.set j y).set j (s1.getD j .un)) = s1
    rw [List.set_set]
    refine (List.ext_getElem? fun i => ?_)
    by_cases e : j = i
    · subst e; rw [List.getElem?_set_self hlt, hj, List.getD_eq_getElem?_getD, hj]; rfl
    · rw [List.getElem?_set_ne e]
  · rintro x hx s ⟨y, hy, rfl⟩
    refine ⟨s1.set j (.va (p x)), s1.set j (.va (p x)), s1.set j (.va (p x)), ?_, rfl, hs x hx, .va (p x), Pl.va, rfl⟩
    show setA j _ ((s1.set j y).set j .un) = _
    rw [List.set_set, ev_setA, ev_ok, List.getElem?_set_self hlt]
    dsimp only
    rw [List.set_set]
    rfl
theorem zipD_map {α β : Type} {f : α → D} {g : β → D} {xs : List α} {ys : List β} : zipD (xs.map f) (ys.map g) = (xs.zip ys).map fun q => .tup [f q.1, g q.2] := by
  unfold zipD
  rw [List.zip_map, List.map_map]
  rfl
theorem enumD_map {α : Type} {f : α → D} {xs : List α} : enumD (xs.map f) = xs.zipIdx.map fun q => .tup [.int (q.2 : Nat), f q.1] := by
  unfold enumD
  rw [List.zipIdx_map, List.map_map]
  rfl
theorem methE {cn m : Str} {Fn : List D → FR} {n : Nat} {gD : List D → List D → List D} {g : F D} {k kk : F (List D)} {s s1 s2 s3 : List Sl} {fs : List (Str × D)} {ds es : List D} {r : D} {io : MO} (e1 : g s = .ok (.ins cn fs) s1) (h : fs.lookup m = none) (e2 : k s1 = .ok ds s2) (e3 : kk s2 = .ok es s3) (hl : (gD (.ins cn fs :: ds) es).length = n) (e4 : Fn (gD (.ins cn fs :: ds) es) = .ret r io) :
    methF cn m Fn n gD g k kk s = .ok r s3 := by
  rw [ev_meth, e1, R.bind_ok]
  dsimp only
  rw [if_pos ⟨rfl, h⟩, e2, R.bind_ok, e3, R.bind_ok, if_pos hl, e4]
  rfl
theorem makeE {cn : Str} {Fi : List D → FR} {n : Nat} {k : F (List D)} {s s1 : List Sl} {ds : List D} {fs : List (Str × D)} (e1 : k s = .ok ds s1) (hl : ds.length + 1 = n) (e : Fi (.ins cn [] :: ds) = .ret .non (.i cn fs)) : makeF cn Fi n k s = .ok (.ins cn fs) s1 := by
  rw [ev_make, e1, R.bind_ok, if_pos hl, e]
  unfold madeR
  dsimp only
  rw [if_pos rfl]
theorem fldE {ns : List Str} {nm n : Str} {g : F D} {s s1 : List Sl} {fs : List (Str × D)} {d : D} (e : g s = .ok (.ins n fs) s1) (hn : n ∈ ns) (hl : fs.lookup nm = some d) : fldF ns nm g s = .ok d s1 := by
  rw [ev_fld, e, R.bind_ok]
  dsimp only
  rw [if_pos hn, hl, ev_toR1]
theorem callE {Fn : List D → FR} {n : Nat} {gD : List D → List D → List D} {k kk : F (List D)} {s s1 s2 : List Sl} {ds es : List D} {r : D} {io : MO} (e1 : k s = .ok ds s1) (e2 : kk s1 = .ok es s2) (hl : (gD ds es).length = n) (e : Fn (gD ds es) = .ret r io) : callF Fn n gD k kk s = .ok r s2 := by
  rw [ev_call, e1, R.bind_ok, e2, R.bind_ok, if_pos hl, e, ev_ofr]
theorem tupE {k : F (List D)} {s s1 : List Sl} {ds : List D} (e : k s = .ok ds s1) (h : ds.length ≤ sizeLine) : tupF k s = .ok (.tup ds) s1 := by
  rw [ev_tup, e, R.bind_ok, if_pos h]
/-! ### instances, for simp -/
def okIns (cn m : Str) : D → Bool
  | .ins c fs => decide (c = cn) && (fs.lookup m).isNone
  | _ => false
theorem evi_meth {cn m : Str} {Fn : List D → FR} {n : Nat} {gD : List D → List D → List D} {g : F D} {k kk : F (List D)} {s : List Sl} : methF cn m Fn n gD g k kk s = (g s).bind fun d s1 =>
    if okIns cn m d = true then (k s1).bind fun ds s2 => (kk s2).bind fun es s3 => if (gD (d :: ds) es).length = n then ofFR (Fn (gD (d :: ds) es)) (fun _ => s3) else .no else .no := by
  rw [ev_meth]
  congr 1
  funext d s1
  cases d with
  | ins c fs =>
    unfold okIns
    dsimp only
    by_cases h1 : c = cn
    · by_cases h2 : fs.lookup m = none
      · rw [if_pos ⟨h1, h2⟩, if_pos (by rw [decide_eq_true h1, h2]; rfl)]
      · rw [if_neg (fun z => h2 z.2), if_neg (by rw [decide_eq_true h1, Bool.true_and]; intro z; exact h2 (Option.isNone_iff_eq_none.mp z))]
    · rw [if_neg (fun z => h1 z.1), if_neg (by rw [decide_eq_false h1]; exact Bool.false_ne_true)]
  | _ => rfl
def fldD (ns : List Str) (nm : Str) : D → Option D
  | .ins n fs => if n ∈ ns then fs.lookup nm else none
  | _ => none
theorem evi_fld {ns : List Str} {nm : Str} {g : F D} {s : List Sl} : fldF ns nm g s = (g s).bind fun d s1 => toR (fldD ns nm d) s1 := by
  rw [ev_fld]
  congr 1
  funext d s1
  cases d with
  | ins c fs =>
    unfold fldD
    dsimp only
    split <;> rfl
  | _ => rfl
def madeD (cn : Str) (r : FR) : Option D := match madeR cn r with
  | some (.inl fs) => some (.ins cn fs)
  | _ => none
def madeX (cn : Str) (r : FR) (s : List Sl) : R D := match madeR cn r with
  | some (.inr x) => .er x s
  | _ => .no
theorem evi_make {cn : Str} {Fi : List D → FR} {n : Nat} {k : F (List D)} {s : List Sl} : makeF cn Fi n k s = (k s).bind fun ds s1 => if ds.length + 1 = n then match madeD cn (Fi (.ins cn [] :: ds)) with
    | some d => .ok d s1
    | none => madeX cn (Fi (.ins cn [] :: ds)) s1
  else .no := by
  rw [ev_make]
  congr 1
  funext d s1
  split
  · unfold madeD madeX
    cases madeR cn (Fi (.ins cn [] :: d)) with
    | none => rfl
    | some x => cases x <;> rfl
  · rfl
theorem seqE {A C : G} {s s1 : List Sl} (h : A s = .nx s1) : seqG A C s = C s1 := by rw [ev_seq, h]
theorem compL_none {vs : List Nat} {a : AS} {u : F Bool} {f : F D} {I : List Sl → Prop} : ∀ (ds : List D) (s : List Sl), I s → (∀ d ∈ ds, ∀ s, I s → ∃ s1 s2, a d (wipeS s vs) = some s1 ∧ u s1 = .ok false s2 ∧ I s2) → ∃ s', compL vs a u f ds s = .ok [] s' ∧ I s'
  | [], s, i, _ => ⟨s, rfl, i⟩
  | d :: ds, s, i, k => by
    obtain ⟨s1, s2, e1, e2, i2⟩ := k d List.mem_cons_self s i
    obtain ⟨s', e4, i4⟩ := compL_none (f := f) ds s2 i2 fun d hd => k d (List.mem_cons_of_mem _ hd)
    refine ⟨s', ?_, i4⟩
    rw [ev_compL1, e1]
    dsimp only
    rw [e2]
    exact e4
theorem slT_to {ds : List D} {j : Nat} (h : j ≤ ds.length) : slD (.tup ds) none (some (j : Int)) = some (.tup (ds.take j)) := by
  have e1 : HT.sIx ds.length ds.length (some (j : Int)) = min j ds.length := HT.sIx_nat _ _ j
  show (if _ then _ else _) = _
  unfold cutD
  rw [e1, HT.sIx_none, Nat.min_eq_left h, List.drop_zero, Nat.sub_zero]
  split
  · rename_i hh
    rw [List.take_of_length_le (by omega)]
  · rfl
theorem slT_from {ds : List D} {j : Nat} (h : j ≤ ds.length) : slD (.tup ds) (some (j : Int)) none = some (.tup (ds.drop j)) := by
  have e1 : HT.sIx ds.length 0 (some (j : Int)) = min j ds.length := HT.sIx_nat _ _ j
  show (if _ then _ else _) = _
  unfold cutD
  rw [e1, HT.sIx_none, Nat.min_eq_left h]
  split
  · rename_i hh
    rw [hh.1, List.drop_zero]
  · rw [List.take_of_length_le (by rw [List.length_drop]; exact Nat.le_refl _)]
end Fx

set_option Elab.async false
set_option linter.all false
set_option maxRecDepth 100000
set_option maxHeartbeats 4000000
namespace Fx
open PySem L2 PyProof.Rows
/-! ### the text -/
def topS (i : Nat) : Stmt := PySem.Challenge.pw_saveagain_k05_whole_matrices_without_rou.main.body.getD i (.Pass ⟨0, 0, 0, 0⟩)
abbrev s__law_pen : Stmt := topS 34
abbrev s__law_draw : Stmt := topS 35
abbrev s__law_pick : Stmt := topS 36
abbrev s__law_step : Stmt := topS 39
abbrev s__law_steps : Stmt := topS 40
abbrev s_is_integer : Stmt := topS 10
abbrev s_is_within : Stmt := topS 11
abbrev s_need_within : Stmt := topS 14
abbrev s_need_width : Stmt := topS 15
abbrev s_is_row : Stmt := topS 13
abbrev s_is_slot : Stmt := topS 12
abbrev s_are_parts : Stmt := topS 24
abbrev s_is_step : Stmt := topS 25
abbrev s_need_steps : Stmt := topS 26
abbrev s_Lift___init__ : Stmt := inClass (topS 32) 0
abbrev s_in_terms : Stmt := topS 29
abbrev s_far_sum : Stmt := topS 30
abbrev s_Lift_far : Stmt := inClass (topS 32) 6
abbrev s__law_gcd : Stmt := topS 41
abbrev s__law_sum : Stmt := topS 42
abbrev s__law_far : Stmt := topS 43
abbrev s__law_number : Stmt := topS 37
abbrev s__law_block : Stmt := topS 38
abbrev s_is_block : Stmt := topS 17
abbrev s_need_block : Stmt := topS 18
abbrev s_share : Stmt := topS 27
abbrev s_Lift_forth : Stmt := inClass (topS 32) 2
abbrev s__law_led : Stmt := topS 44
abbrev s__law_shifts_right : Stmt := topS 45
abbrev s_raw_lift : Stmt := topS 31
abbrev s_turned_step : Stmt := topS 28
abbrev s_Lift_undone : Stmt := inClass (topS 32) 4
abbrev s_law : Stmt := topS 46
theorem sc__law_pen : FnScope ["script"] ["script"] (defScope s__law_pen) := ⟨rfl, rfl, rfl, by decide +kernel, rfl, by decide +kernel, by decide +kernel⟩
theorem sc__law_draw : FnScope ["pen", "many", "digit", "taken", "cell", "great", "mixed"] ["pen", "many"] (defScope s__law_draw) := ⟨rfl, rfl, rfl, by decide +kernel, rfl, by decide +kernel, by decide +kernel⟩
theorem sc__law_pick : FnScope ["pen", "some"] ["pen", "some"] (defScope s__law_pick) := ⟨rfl, rfl, rfl, by decide +kernel, rfl, by decide +kernel, by decide +kernel⟩
theorem sc__law_step : FnScope ["pen", "width", "target", "parts", "way", "slot", "add", "over"] ["pen", "width"] (defScope s__law_step) := ⟨rfl, rfl, rfl, by decide +kernel, rfl, by decide +kernel, by decide +kernel⟩
theorem sc__law_steps : FnScope ["pen", "width", "most", "turn"] ["pen", "width", "most"] (defScope s__law_steps) := ⟨rfl, rfl, rfl, by decide +kernel, rfl, by decide +kernel, by decide +kernel⟩
theorem sc_is_integer : FnScope ["value"] ["value"] (defScope s_is_integer) := ⟨rfl, rfl, rfl, by decide +kernel, rfl, by decide +kernel, by decide +kernel⟩
theorem sc_is_within : FnScope ["value", "least", "most"] ["value", "least", "most"] (defScope s_is_within) := ⟨rfl, rfl, rfl, by decide +kernel, rfl, by decide +kernel, by decide +kernel⟩
theorem sc_need_within : FnScope ["value", "least", "most", "part"] ["value", "least", "most", "part"] (defScope s_need_within) := ⟨rfl, rfl, rfl, by decide +kernel, rfl, by decide +kernel, by decide +kernel⟩
theorem sc_need_width : FnScope ["value"] ["value"] (defScope s_need_width) := ⟨rfl, rfl, rfl, by decide +kernel, rfl, by decide +kernel, by decide +kernel⟩
theorem sc_is_row : FnScope ["value", "most"] ["value", "most"] (defScope s_is_row) := ⟨rfl, rfl, rfl, by decide +kernel, rfl, by decide +kernel, by decide +kernel⟩
theorem sc_is_slot : FnScope ["value", "width"] ["value", "width"] (defScope s_is_slot) := ⟨rfl, rfl, rfl, by decide +kernel, rfl, by decide +kernel, by decide +kernel⟩
theorem sc_are_parts : FnScope ["value", "target", "width", "part", "one", "other"] ["value", "target", "width"] (defScope s_are_parts) := ⟨rfl, rfl, rfl, by decide +kernel, rfl, by decide +kernel, by decide +kernel⟩
theorem sc_is_step : FnScope ["value", "width"] ["value", "width"] (defScope s_is_step) := ⟨rfl, rfl, rfl, by decide +kernel, rfl, by decide +kernel, by decide +kernel⟩
theorem sc_need_steps : FnScope ["value", "width", "at", "step", "part"] ["value", "width"] (defScope s_need_steps) := ⟨rfl, rfl, rfl, by decide +kernel, rfl, by decide +kernel, by decide +kernel⟩
theorem sc_Lift___init__ : FnScope ["self", "width", "steps"] ["self", "width", "steps"] (defScope s_Lift___init__) := ⟨rfl, rfl, rfl, by decide +kernel, rfl, by decide +kernel, by decide +kernel⟩
theorem sc_in_terms : FnScope ["top", "bottom", "shared"] ["top", "bottom"] (defScope s_in_terms) := ⟨rfl, rfl, rfl, by decide +kernel, rfl, by decide +kernel, by decide +kernel⟩
theorem sc_far_sum : FnScope ["rows", "step", "target", "parts", "add", "over", "found", "slot", "times", "at", "top", "bottom", "here", "below"] ["rows", "step"] (defScope s_far_sum) := ⟨rfl, rfl, rfl, by decide +kernel, rfl, by decide +kernel, by decide +kernel⟩
theorem sc_Lift_far : FnScope ["self", "rows", "step", "slot", "at", "row"] ["self"] (defScope s_Lift_far) := ⟨rfl, rfl, rfl, by decide +kernel, rfl, by decide +kernel, by decide +kernel⟩
theorem sc__law_gcd : FnScope ["one", "other"] ["one", "other"] (defScope s__law_gcd) := ⟨rfl, rfl, rfl, by decide +kernel, rfl, by decide +kernel, by decide +kernel⟩
theorem sc__law_sum : FnScope ["one", "other", "top", "bottom", "shared"] ["one", "other"] (defScope s__law_sum) := ⟨rfl, rfl, rfl, by decide +kernel, rfl, by decide +kernel, by decide +kernel⟩
theorem sc__law_far : FnScope ["width", "steps", "slot", "rows", "target", "parts", "add", "over", "times", "at", "row", "here", "there"] ["width", "steps"] (defScope s__law_far) := ⟨rfl, rfl, rfl, by decide +kernel, rfl, by decide +kernel, by decide +kernel⟩
theorem sc__law_number : FnScope ["pen", "way"] ["pen"] (defScope s__law_number) := ⟨rfl, rfl, rfl, by decide +kernel, rfl, by decide +kernel, by decide +kernel⟩
theorem sc__law_block : FnScope ["pen", "width", "slot"] ["pen", "width"] (defScope s__law_block) := ⟨rfl, rfl, rfl, by decide +kernel, rfl, by decide +kernel, by decide +kernel⟩
theorem sc_is_block : FnScope ["value", "width", "number"] ["value", "width"] (defScope s_is_block) := ⟨rfl, rfl, rfl, by decide +kernel, rfl, by decide +kernel, by decide +kernel⟩
theorem sc_need_block : FnScope ["value", "width"] ["value", "width"] (defScope s_need_block) := ⟨rfl, rfl, rfl, by decide +kernel, rfl, by decide +kernel, by decide +kernel⟩
theorem sc_share : FnScope ["step", "block", "target", "parts", "add", "over", "slot", "times"] ["step", "block"] (defScope s_share) := ⟨rfl, rfl, rfl, by decide +kernel, rfl, by decide +kernel, by decide +kernel⟩
theorem sc_Lift_forth : FnScope ["self", "block", "found", "step"] ["self", "block"] (defScope s_Lift_forth) := ⟨rfl, rfl, rfl, by decide +kernel, rfl, by decide +kernel, by decide +kernel⟩
theorem sc__law_led : FnScope ["matrix", "block", "found", "row", "total", "share_v", "number"] ["matrix", "block"] (defScope s__law_led) := ⟨rfl, rfl, rfl, by decide +kernel, rfl, by decide +kernel, by decide +kernel⟩
theorem sc__law_shifts_right : FnScope ["pen", "width", "steps", "lift", "whole", "step", "turn", "block", "shift", "there", "led", "slot", "one", "other"] ["pen", "width", "steps", "lift"] (defScope s__law_shifts_right) := ⟨rfl, rfl, rfl, by decide +kernel, rfl, by decide +kernel, by decide +kernel⟩
theorem sc_raw_lift : FnScope ["width", "steps", "made"] ["width", "steps"] (defScope s_raw_lift) := ⟨rfl, rfl, rfl, by decide +kernel, rfl, by decide +kernel, by decide +kernel⟩
theorem sc_turned_step : FnScope ["step", "target", "parts", "add", "over", "slot", "times"] ["step"] (defScope s_turned_step) := ⟨rfl, rfl, rfl, by decide +kernel, rfl, by decide +kernel, by decide +kernel⟩
theorem sc_Lift_undone : FnScope ["self", "step"] ["self"] (defScope s_Lift_undone) := ⟨rfl, rfl, rfl, by decide +kernel, rfl, by decide +kernel, by decide +kernel⟩
theorem sc_law : FnScope ["script", "pen", "turn", "width", "steps", "lift", "at", "columns", "back", "column", "slot", "total", "one", "other", "row"] ["script"] (defScope s_law) := ⟨rfl, rfl, rfl, by decide +kernel, rfl, by decide +kernel, by decide +kernel⟩
/-! ### what each def does -/
def g__law_pen : G := (retNG (lstN (consF (lstF' (opnN listN (consF (slF (nameF 0) noPartF (partF (cF (.int 63)))) nilF))) (consF (cF (.int 0)) (consF (cF (.int 0)) nilF)))))
def F__law_pen : List D → FR := bodyF 1 false g__law_pen
def g__law_draw : G := (seqG (ifG (tstF (op2F gtD (ixOwnF 0 (cF (.int 2))) (cF (.int 0))))
    (seqG (asgG (op2F modD (opnF intD (consF (ixOwnF 0 (cF (.int 2))) nilF)) (nameF 1)) (setA 2))
    (seqG (setIxG 0 (cF (.int 2)) (op2F fdivD (opnF intD (consF (ixOwnF 0 (cF (.int 2))) nilF)) (nameF 1)))
    (retG (nameF 2))))
    nextG)
    (seqG (asgG (ixOwnF 0 (cF (.int 1))) (setA 3))
    (seqG (setIxG 0 (cF (.int 1)) (op2F addD (nameF 3) (cF (.int 1))))
    (seqG (asgG (op2F addD (op2F mulD (cF (.int 57709)) (nameF 3)) (cF (.int 6151))) (setA 4))
    (seqG (ifG (tstF (op2F neD (ixOwnF 0 (cF (.int 0))) (lstF nilF)))
    (asgG (op2F ixD (ixOwnF 0 (cF (.int 0))) (op2F modD (opnF intD (consF (nameF 3) nilF)) (opnF lenD (consF (ixOwnF 0 (cF (.int 0))) nilF)))) (setA 4))
    nextG)
    (seqG (ifG (andT (tstF (op2F ltD (nameF 3) (opnF lenD (consF (ixOwnF 0 (cF (.int 0))) nilF)))) (tstF (op2F geD (opnF absD (consF (nameF 4) nilF)) (op2F powD (cF (.int 10)) (cF (.int 18))))))
    (seqG (asgG (op2F addD (op2F mulD (cF (.int 2)) (op2F subD (opnF absD (consF (nameF 4) nilF)) (op2F powD (cF (.int 10)) (cF (.int 18))))) (opnF intD (consF (op2F ltD (nameF 4) (cF (.int 0))) nilF))) (setA 5))
    (seqG (setIxG 0 (cF (.int 2)) (op2F fdivD (opnF intD (consF (nameF 5) nilF)) (nameF 1)))
    (retG (op2F modD (opnF intD (consF (nameF 5) nilF)) (nameF 1)))))
    nextG)
    (seqG (asgG (op2F modD (opnF intD (consF (op2F powD (op2F addD (op2F addD (op2F modD (opnF intD (consF (nameF 4) nilF)) (cF (.int 2147483563))) (op2F mulD (cF (.int 57709)) (nameF 3))) (cF (.int 6151))) (cF (.int 5))) nilF)) (cF (.int 2147483629))) (setA 6))
    (seqG (asgG (op2F modD (opnF intD (consF (op2F powD (op2F addD (op2F addD (op2F mulD (nameF 6) (op2F addD (op2F mulD (cF (.int 2)) (nameF 3)) (cF (.int 953)))) (op2F mulD (op2F mulD (cF (.int 57709)) (nameF 3)) (nameF 3))) (cF (.int 6151))) (cF (.int 3))) nilF)) (cF (.int 2147483587))) (setA 6))
    (retG (op2F modD (opnF intD (consF (op2F fdivD (nameF 6) (cF (.int 32))) nilF)) (nameF 1)))))))))))
def F__law_draw : List D → FR := bodyF 7 true g__law_draw
def g__law_pick : G := (retG (op2F ixD (nameF 1) (callIoF F__law_draw 2 0 (consF (opnF lenD (consF (nameF 1) nilF)) nilF))))
def F__law_pick : List D → FR := bodyF 2 true g__law_pick
def g__law_step_b1 : G := (ifG (andT (tstF (op2F neD (nameF 5) (nameF 2))) (tstF (op2F gtD (callIoF F__law_draw 2 0 (consF (cF (.int 3)) nilF)) (cF (.int 0)))))
    (appG 3 (tupF (consF (nameF 5) (consF (callIoF F__law_pick 2 0 (consF (lstF (consF (cF (.int 1)) (consF (op1F negD (cF (.int 1))) (consF (cF (.int 2)) (consF (op1F negD (cF (.int 2))) (consF (cF (.int 4)) (consF (op1F negD (cF (.int 7))) (consF (cF (.int 3)) (consF (cF (.int 9)) (consF (op1F negD (cF (.int 9))) nilF)))))))))) nilF)) nilF))))
    nextG)
def g__law_step : G := (seqG (parMG [2, 3, 4] (vaM (callIoF F__law_draw 2 0 (consF (nameF 1) nilF)) (owM (lstN nilF) (vaM (callIoF F__law_draw 2 0 (consF (cF (.int 6)) nilF)) nilM))))
    (seqG (forG (rng1F (nameF 1)) (setA 5) g__law_step_b1)
    (seqG (parG 6 7 (consF (callIoF F__law_pick 2 0 (consF (lstF (consF (cF (.int 0)) (consF (cF (.int 0)) (consF (cF (.int 1)) (consF (op1F negD (cF (.int 1))) (consF (op2F subD (callIoF F__law_draw 2 0 (consF (cF (.int 199)) nilF)) (cF (.int 99))) nilF)))))) nilF)) (consF (callIoF F__law_pick 2 0 (consF (lstF (consF (cF (.int 2)) (consF (cF (.int 2)) (consF (cF (.int 1)) (consF (cF (.int 3)) (consF (op2F addD (cF (.int 1)) (callIoF F__law_draw 2 0 (consF (cF (.int 9)) nilF))) nilF)))))) nilF)) nilF)))
    (retG (tupF (consF (nameF 2) (consF (opnF tupleD (consF (nameF 3) nilF)) (consF (ifF (tstF (op2F eqD (nameF 4) (cF (.int 0)))) (cF (.int 99)) (nameF 6)) (consF (ifF (tstF (op2F eqD (nameF 4) (cF (.int 1)))) (cF (.int 9)) (nameF 7)) nilF)))))))))
def F__law_step : List D → FR := bodyF 8 true g__law_step
def g__law_steps : G := (retG (opnF tupleD (consF (lstF' (compN (rng1F (callIoF F__law_draw 2 0 (consF (op2F addD (nameF 2) (cF (.int 1))) nilF))) [3] (setA 3) yesT (callIoF F__law_step 2 0 (consF (nameF 1) nilF)))) nilF)))
def F__law_steps : List D → FR := bodyF 4 true g__law_steps
def g_is_integer : G := (retG (andF (opnF isiD (consF (nameF 0) (consF (cF (.ty "int")) nilF))) (notF (opnF isiD (consF (nameF 0) (consF (cF (.ty "bool")) nilF))))))
def F_is_integer : List D → FR := bodyF 1 false g_is_integer
def g_is_within : G := (seqG (ifG (notT (tstF (callF F_is_integer 1 (pickG 1 0 [] [0]) (consF (nameF 0) nilF) nilF)))
    (retG (cF (.bl false)))
    nextG)
    (retG (andF (orF (op2F isD (nameF 1) (cF .non)) (op2F geD (nameF 0) (nameF 1))) (orF (op2F isD (nameF 2) (cF .non)) (op2F leD (nameF 0) (nameF 2))))))
def F_is_within : List D → FR := bodyF 3 false g_is_within
def g_need_within : G := (ifG (notT (tstF (callF F_is_within 3 (pickG 3 0 [] [0, 1, 2]) (consF (nameF 0) (consF (nameF 1) (consF (nameF 2) nilF))) nilF)))
    noG
    nextG)
def F_need_within : List D → FR := bodyF 4 false g_need_within
def g_need_width : G := (dropG (callF F_need_within 4 (pickG 4 0 [] [0, 1, 2, 3]) (consF (nameF 0) (consF (cF (.int 1)) (consF (cF (.int 6)) (consF (cF (.str "width")) nilF)))) nilF))
def F_need_width : List D → FR := bodyF 1 false g_need_width
def g_is_row : G := (retG (andF (opnF isiD (consF (nameF 0) (consF (tupF (consF (cF (.ty "list")) (consF (cF (.ty "tuple")) nilF))) nilF))) (op2F leD (opnF lenD (consF (nameF 0) nilF)) (nameF 1))))
def F_is_row : List D → FR := bodyF 2 false g_is_row
def g_is_slot : G := (seqG (dropG (callF F_need_width 1 (pickG 1 0 [] [0]) (consF (nameF 1) nilF) nilF))
    (retG (callF F_is_within 3 (pickG 3 0 [] [0, 1, 2]) (consF (nameF 0) (consF (cF (.int 0)) (consF (op2F subD (nameF 1) (cF (.int 1))) nilF))) nilF)))
def F_is_slot : List D → FR := bodyF 2 false g_is_slot
def g_are_parts_b1 : G := (seqG (ifG (orT (notT (tstF (callF F_is_row 2 (pickG 2 0 [] [0, 1]) (consF (nameF 3) (consF (cF (.int 2)) nilF)) nilF))) (orT (tstF (op2F neD (opnF lenD (consF (nameF 3) nilF)) (cF (.int 2)))) (orT (notT (tstF (callF F_is_slot 2 (pickG 2 0 [] [0, 1]) (consF (op2F ixD (nameF 3) (cF (.int 0))) (consF (nameF 2) nilF)) nilF))) (tstF (op2F eqD (op2F ixD (nameF 3) (cF (.int 0))) (nameF 1))))))
    (retG (cF (.bl false)))
    nextG)
    (ifG (orT (notT (tstF (callF F_is_within 3 (pickG 3 0 [] [0, 1, 2]) (consF (op2F ixD (nameF 3) (cF (.int 1))) (consF (op1F negD (cF (.int 9))) (consF (cF (.int 9)) nilF))) nilF))) (tstF (op2F eqD (op2F ixD (nameF 3) (cF (.int 1))) (cF (.int 0)))))
    (retG (cF (.bl false)))
    nextG))
def g_are_parts : G := (seqG (ifG (notT (tstF (callF F_is_row 2 (pickG 2 0 [] [0, 1]) (consF (nameF 0) (consF (op2F subD (nameF 2) (cF (.int 1))) nilF)) nilF)))
    (retG (cF (.bl false)))
    nextG)
    (seqG (forG (iterF (nameF 0)) (setA 3) g_are_parts_b1)
    (retG (opnF allD (consF (lstF' (compN (zipF (nameF 0) (slF (nameF 0) (partF (cF (.int 1))) noPartF)) [4, 5] (seqA 2 (consA (setA 4) (consA (setA 5) nilA))) yesT (op2F ltD (op2F ixD (nameF 4) (cF (.int 0))) (op2F ixD (nameF 5) (cF (.int 0)))))) nilF)))))
def F_are_parts : List D → FR := bodyF 6 false g_are_parts
def g_is_step : G := (seqG (dropG (callF F_need_width 1 (pickG 1 0 [] [0]) (consF (nameF 1) nilF) nilF))
    (seqG (ifG (orT (notT (tstF (callF F_is_row 2 (pickG 2 0 [] [0, 1]) (consF (nameF 0) (consF (cF (.int 4)) nilF)) nilF))) (orT (tstF (op2F neD (opnF lenD (consF (nameF 0) nilF)) (cF (.int 4)))) (notT (tstF (callF F_is_slot 2 (pickG 2 0 [] [0, 1]) (consF (op2F ixD (nameF 0) (cF (.int 0))) (consF (nameF 1) nilF)) nilF)))))
    (retG (cF (.bl false)))
    nextG)
    (seqG (ifG (notT (tstF (callF F_are_parts 3 (pickG 3 0 [] [0, 1, 2]) (consF (op2F ixD (nameF 0) (cF (.int 1))) (consF (op2F ixD (nameF 0) (cF (.int 0))) (consF (nameF 1) nilF))) nilF)))
    (retG (cF (.bl false)))
    nextG)
    (retG (andF (callF F_is_within 3 (pickG 3 0 [] [0, 1, 2]) (consF (op2F ixD (nameF 0) (cF (.int 2))) (consF (op1F negD (cF (.int 99))) (consF (cF (.int 99)) nilF))) nilF) (callF F_is_within 3 (pickG 3 0 [] [0, 1, 2]) (consF (op2F ixD (nameF 0) (cF (.int 3))) (consF (cF (.int 1)) (consF (cF (.int 9)) nilF))) nilF))))))
def F_is_step : List D → FR := bodyF 2 false g_is_step
def g_need_steps_b1 : G := (ifG (notT (tstF (callF F_is_step 2 (pickG 2 0 [] [0, 1]) (consF (nameF 3) (consF (nameF 1) nilF)) nilF)))
    noG
    nextG)
def g_need_steps : G := (seqG (ifG (notT (tstF (opnF isiD (consF (nameF 0) (consF (tupF (consF (cF (.ty "list")) (consF (cF (.ty "tuple")) nilF))) nilF)))))
    noG
    nextG)
    (seqG (ifG (tstF (op2F gtD (opnF lenD (consF (nameF 0) nilF)) (cF (.int 12))))
    noG
    nextG)
    (seqG (forG (enumF (nameF 0)) (seqA 2 (consA (setA 2) (consA (setA 3) nilA))) g_need_steps_b1)
    (retG (opnF tupleD (consF (lstF' (compN (iterF (nameF 0)) [3] (setA 3) yesT (tupF (consF (op2F ixD (nameF 3) (cF (.int 0))) (consF (opnF tupleD (consF (lstF' (compN (iterF (op2F ixD (nameF 3) (cF (.int 1)))) [4] (setA 4) yesT (opnF tupleD (consF (nameF 4) nilF)))) nilF)) (consF (op2F ixD (nameF 3) (cF (.int 2))) (consF (op2F ixD (nameF 3) (cF (.int 3))) nilF))))))) nilF))))))
def F_need_steps : List D → FR := bodyF 5 false g_need_steps
def g_Lift___init__ : G := (seqG (dropG (callF F_need_width 1 (pickG 1 0 [] [0]) (consF (nameF 1) nilF) nilF))
    (seqG (fldG 0 ["Lift"] "width" (nameF 1))
    (fldG 0 ["Lift"] "steps" (callF F_need_steps 2 (pickG 2 0 [] [0, 1]) (consF (nameF 2) (consF (nameF 1) nilF)) nilF))))
def F_Lift___init__ : List D → FR := bodyF 3 true g_Lift___init__
def g_in_terms : G := (seqG (asgG (opnF gcdD (consF (nameF 0) (consF (nameF 1) nilF))) (setA 2))
    (retG (tupF (consF (op2F fdivD (nameF 0) (nameF 2)) (consF (op2F fdivD (nameF 1) (nameF 2)) nilF)))))
def F_in_terms : List D → FR := bodyF 3 false g_in_terms
def g_far_sum_b1 : G := (seqG (asgG (ixOwnF 6 (nameF 9)) (seqA 2 (consA (setA 12) (consA (setA 13) nilA))))
    (setIxG 6 (nameF 9) (callF F_in_terms 2 (pickG 2 0 [] [0, 1]) (consF (op2F addD (op2F mulD (op2F mulD (nameF 12) (nameF 11)) (nameF 5)) (op2F mulD (op2F mulD (nameF 8) (nameF 10)) (nameF 13))) (consF (op2F mulD (op2F mulD (nameF 13) (nameF 11)) (nameF 5)) nilF)) nilF)))
def g_far_sum_b2 : G := (forG (enumF (op2F ixD (nameF 0) (nameF 7))) (seqA 2 (consA (setA 9) (consA (seqA 2 (consA (setA 10) (consA (setA 11) nilA))) nilA))) g_far_sum_b1)
def g_far_sum : G := (seqG (asgG (nameF 1) (seqA 4 (consA (setA 2) (consA (setA 3) (consA (setA 4) (consA (setA 5) nilA))))))
    (seqG (setNG 6 (opnN listN (consF (op2F ixD (nameF 0) (nameF 2)) nilF)))
    (seqG (forG (iterF (nameF 3)) (seqA 2 (consA (setA 7) (consA (setA 8) nilA))) g_far_sum_b2)
    (retV 6))))
def F_far_sum : List D → FR := bodyF 14 false g_far_sum
def g_Lift_far_b1 : G := (setIxG 1 (op2F ixD (nameF 2) (cF (.int 0))) (callLF F_far_sum 2 (lendL 1 (nameL 2 nilL))))
def g_Lift_far : G := (seqG (setNG 1 (compN (rng1F (fldF ["Lift"] "width" (nameF 0))) [3] (setA 3) yesT (lstF' (compN (rng1F (fldF ["Lift"] "width" (nameF 0))) [4] (setA 4) yesT (tupF (consF (opnF intD (consF (op2F eqD (nameF 4) (nameF 3)) nilF)) (consF (cF (.int 1)) nilF)))))))
    (seqG (forG (iterF (fldF ["Lift"] "steps" (nameF 0))) (setA 2) g_Lift_far_b1)
    (retG (opnF tupleD (consF (lstF' (compN (iterF (nameF 1)) [5] (setA 5) yesT (opnF tupleD (consF (nameF 5) nilF)))) nilF)))))
def F_Lift_far : List D → FR := bodyF 6 false g_Lift_far
def g__law_gcd_b1 : G := (parG 0 1 (consF (nameF 1) (consF (op2F modD (opnF intD (consF (nameF 0) nilF)) (nameF 1)) nilF)))
def g__law_gcd : G := (seqG (parG 0 1 (consF (opnF absD (consF (opnF intD (consF (nameF 0) nilF)) nilF)) (consF (opnF absD (consF (opnF intD (consF (nameF 1) nilF)) nilF)) nilF)))
    (seqG (whileL (tstF (op2F neD (nameF 1) (cF (.int 0)))) g__law_gcd_b1 1000000)
    (retG (nameF 0))))
def F__law_gcd : List D → FR := bodyF 2 false g__law_gcd
def g__law_sum : G := (seqG (parG 2 3 (consF (op2F addD (op2F mulD (op2F ixD (nameF 0) (cF (.int 0))) (op2F ixD (nameF 1) (cF (.int 1)))) (op2F mulD (op2F ixD (nameF 1) (cF (.int 0))) (op2F ixD (nameF 0) (cF (.int 1))))) (consF (op2F mulD (op2F ixD (nameF 0) (cF (.int 1))) (op2F ixD (nameF 1) (cF (.int 1)))) nilF)))
    (seqG (asgG (callF F__law_gcd 2 (pickG 2 0 [] [0, 1]) (consF (nameF 2) (consF (nameF 3) nilF)) nilF) (setA 4))
    (retG (tupF (consF (op2F fdivD (nameF 2) (nameF 4)) (consF (op2F fdivD (nameF 3) (nameF 4)) nilF))))))
def F__law_sum : List D → FR := bodyF 5 false g__law_sum
def g__law_far_b1 : G := (setIxG 3 (nameF 4) (lstF' (compN (zipF (ixOwnF 3 (nameF 4)) (ixOwnF 3 (nameF 2))) [11, 12] (seqA 2 (consA (setA 11) (consA (setA 12) nilA))) yesT (callF F__law_sum 2 (pickG 2 0 [] [0, 1]) (consF (nameF 11) (consF (tupF (consF (op2F mulD (nameF 8) (op2F ixD (nameF 12) (cF (.int 0)))) (consF (op2F mulD (op2F ixD (nameF 12) (cF (.int 1))) (nameF 7)) nilF))) nilF)) nilF))))
def g__law_far_b2 : G := (forG (iterF (nameF 5)) (seqA 2 (consA (setA 2) (consA (setA 8) nilA))) g__law_far_b1)
def g__law_far : G := (seqG (setNG 3 (compN (rng1F (nameF 0)) [2] (setA 2) yesT (lstF' (compN (rng1F (nameF 0)) [9] (setA 9) yesT (tupF (consF (opnF intD (consF (op2F eqD (nameF 9) (nameF 2)) nilF)) (consF (cF (.int 1)) nilF)))))))
    (seqG (forG (iterF (nameF 1)) (seqA 4 (consA (setA 4) (consA (setA 5) (consA (setA 6) (consA (setA 7) nilA))))) g__law_far_b2)
    (retG (opnF tupleD (consF (lstF' (compN (iterF (nameF 3)) [10] (setA 10) yesT (opnF tupleD (consF (nameF 10) nilF)))) nilF)))))
def F__law_far : List D → FR := bodyF 13 false g__law_far
def g__law_number : G := (seqG (asgG (callIoF F__law_draw 2 0 (consF (cF (.int 9)) nilF)) (setA 1))
    (seqG (ifG (tstF (op2F eqD (nameF 1) (cF (.int 0))))
    (retG (op2F mulD (callIoF F__law_pick 2 0 (consF (lstF (consF (cF (.int 1)) (consF (op1F negD (cF (.int 1))) nilF))) nilF)) (op2F addD (op2F powD (cF (.int 10)) (cF (.int 29))) (callIoF F__law_draw 2 0 (consF (op2F powD (cF (.int 10)) (cF (.int 9))) nilF)))))
    nextG)
    (retG (ifF (tstF (op2F ltD (nameF 1) (cF (.int 4)))) (op2F subD (callIoF F__law_draw 2 0 (consF (cF (.int 60)) nilF)) (cF (.int 30))) (op2F subD (callIoF F__law_draw 2 0 (consF (cF (.int 13)) nilF)) (cF (.int 6)))))))
def F__law_number : List D → FR := bodyF 2 true g__law_number
def g__law_block : G := (retG (opnF tupleD (consF (lstF' (compN (rng1F (nameF 1)) [2] (setA 2) yesT (callIoF F__law_number 1 0 nilF))) nilF)))
def F__law_block : List D → FR := bodyF 3 true g__law_block
def g_is_block : G := (seqG (dropG (callF F_need_width 1 (pickG 1 0 [] [0]) (consF (nameF 1) nilF) nilF))
    (seqG (ifG (orT (notT (tstF (opnF isiD (consF (nameF 0) (consF (tupF (consF (cF (.ty "list")) (consF (cF (.ty "tuple")) nilF))) nilF))))) (tstF (op2F neD (opnF lenD (consF (nameF 0) nilF)) (nameF 1))))
    (retG (cF (.bl false)))
    nextG)
    (retG (opnF allD (consF (lstF' (compN (iterF (nameF 0)) [2] (setA 2) yesT (callF F_is_integer 1 (pickG 1 0 [] [0]) (consF (nameF 2) nilF) nilF))) nilF)))))
def F_is_block : List D → FR := bodyF 3 false g_is_block
def g_need_block : G := (seqG (ifG (notT (tstF (callF F_is_block 2 (pickG 2 0 [] [0, 1]) (consF (nameF 0) (consF (nameF 1) nilF)) nilF)))
    noG
    nextG)
    (retG (opnF tupleD (consF (nameF 0) nilF))))
def F_need_block : List D → FR := bodyF 2 false g_need_block
def g_share : G := (seqG (asgG (nameF 0) (seqA 4 (consA (setA 2) (consA (setA 3) (consA (setA 4) (consA (setA 5) nilA))))))
    (retG (op2F fdivD (op2F addD (opnF sumD (consF (lstF' (compN (iterF (nameF 3)) [6, 7] (seqA 2 (consA (setA 6) (consA (setA 7) nilA))) yesT (op2F mulD (nameF 7) (op2F ixD (nameF 1) (nameF 6))))) nilF)) (nameF 4)) (nameF 5))))
def F_share : List D → FR := bodyF 8 false g_share
def g_Lift_forth_b1 : G := (augIxG 2 iaddD (op2F ixD (nameF 3) (cF (.int 0))) (callLF F_share 2 (nameL 3 (lendL 2 nilL))))
def g_Lift_forth : G := (seqG (setNG 2 (opnN listN (consF (callF F_need_block 2 (pickG 2 0 [] [0, 1]) (consF (nameF 1) (consF (fldF ["Lift"] "width" (nameF 0)) nilF)) nilF) nilF)))
    (seqG (forG (iterF (fldF ["Lift"] "steps" (nameF 0))) (setA 3) g_Lift_forth_b1)
    (retG (opnF tupleD (consF (nameF 2) nilF)))))
def F_Lift_forth : List D → FR := bodyF 4 false g_Lift_forth
def g__law_led_b1 : G := (asgG (callF F__law_sum 2 (pickG 2 0 [] [0, 1]) (consF (nameF 4) (consF (tupF (consF (op2F mulD (op2F ixD (nameF 5) (cF (.int 0))) (nameF 6)) (consF (op2F ixD (nameF 5) (cF (.int 1))) nilF))) nilF)) nilF) (setA 4))
def g__law_led_b2 : G := (seqG (asgG (tupF (consF (cF (.int 0)) (consF (cF (.int 1)) nilF))) (setA 4))
    (seqG (forG (zipF (nameF 3) (nameF 1)) (seqA 2 (consA (setA 5) (consA (setA 6) nilA))) g__law_led_b1)
    (appG 2 (nameF 4))))
def g__law_led : G := (seqG (setNG 2 (lstN nilF))
    (seqG (forG (iterF (nameF 0)) (setA 3) g__law_led_b2)
    (retV 2)))
def F__law_led : List D → FR := bodyF 7 false g__law_led
def g__law_shifts_right_b1 : G := (asgG (op2F mulD (nameF 4) (op2F ixD (nameF 5) (cF (.int 3)))) (setA 4))
def g__law_shifts_right_b2 : G := (seqG (asgG (callIoF F__law_block 2 0 (consF (nameF 1) nilF)) (setA 7))
    (seqG (asgG (opnF tupleD (consF (lstF' (compN (rng1F (nameF 1)) [11] (setA 11) yesT (op2F mulD (nameF 4) (callIoF F__law_pick 2 0 (consF (lstF (consF (cF (.int 0)) (consF (cF (.int 1)) (consF (op1F negD (cF (.int 1))) (consF (callIoF F__law_draw 2 0 (consF (op2F powD (cF (.int 10)) (cF (.int 24))) nilF)) nilF))))) nilF))))) nilF)) (setA 8))
    (seqG (asgG (methF "Lift" "forth" F_Lift_forth 2 (pickG 2 0 [] [0, 1]) (nameF 3) (consF (lstF' (compN (zipF (nameF 7) (nameF 8)) [12, 13] (seqA 2 (consA (setA 12) (consA (setA 13) nilA))) yesT (op2F addD (nameF 12) (nameF 13)))) nilF) nilF) (setA 9))
    (seqG (asgG (callF F__law_led 2 (pickG 2 0 [] [0, 1]) (consF (methF "Lift" "far" F_Lift_far 1 (pickG 1 0 [] [0]) (nameF 3) nilF nilF) (consF (nameF 8) nilF)) nilF) (setA 10))
    (ifG (tstF (op2F neD (lstF' (compN (zipF (nameF 9) (methF "Lift" "forth" F_Lift_forth 2 (pickG 2 0 [] [0, 1]) (nameF 3) (consF (nameF 7) nilF) nilF)) [12, 13] (seqA 2 (consA (setA 12) (consA (setA 13) nilA))) yesT (tupF (consF (op2F subD (nameF 12) (nameF 13)) (consF (cF (.int 1)) nilF))))) (nameF 10)))
    (retG (cF (.bl false)))
    nextG)))))
def g__law_shifts_right : G := (seqG (asgG (cF (.int 1)) (setA 4))
    (seqG (forG (iterF (nameF 2)) (setA 5) g__law_shifts_right_b1)
    (seqG (forG (rng1F (cF (.int 3))) (setA 6) g__law_shifts_right_b2)
    (retG (cF (.bl true))))))
def F__law_shifts_right : List D → FR := bodyF 14 true g__law_shifts_right
def g_raw_lift : G := (seqG (makeG 2 "Lift" F_Lift___init__ 3 (consF (nameF 0) (consF (tupF nilF) nilF)))
    (seqG (fldG 2 ["Lift"] "steps" (opnF tupleD (consF (nameF 1) nilF)))
    (retG (nameF 2))))
def F_raw_lift : List D → FR := bodyF 3 false g_raw_lift
def g_turned_step : G := (seqG (asgG (nameF 0) (seqA 4 (consA (setA 1) (consA (setA 2) (consA (setA 3) (consA (setA 4) nilA))))))
    (retG (tupF (consF (nameF 1) (consF (opnF tupleD (consF (lstF' (compN (iterF (nameF 2)) [5, 6] (seqA 2 (consA (setA 5) (consA (setA 6) nilA))) yesT (tupF (consF (nameF 5) (consF (op1F negD (nameF 6)) nilF))))) nilF)) (consF (op2F subD (op2F subD (nameF 4) (cF (.int 1))) (nameF 3)) (consF (nameF 4) nilF)))))))
def F_turned_step : List D → FR := bodyF 7 false g_turned_step
def g_Lift_undone : G := (retG (callF F_raw_lift 2 (pickG 2 0 [] [0, 1]) (consF (fldF ["Lift"] "width" (nameF 0)) (consF (lstF' (compN (iterF (revTF (fldF ["Lift"] "steps" (nameF 0)))) [1] (setA 1) yesT (callF F_turned_step 1 (pickG 1 0 [] [0]) (consF (nameF 1) nilF) nilF))) nilF)) nilF))
def F_Lift_undone : List D → FR := bodyF 2 false g_Lift_undone
def g_law_b1 : G := (asgG (callF F__law_sum 2 (pickG 2 0 [] [0, 1]) (consF (nameF 11) (consF (tupF (consF (op2F mulD (op2F ixD (nameF 12) (cF (.int 0))) (op2F ixD (nameF 13) (cF (.int 0)))) (consF (op2F mulD (op2F ixD (nameF 12) (cF (.int 1))) (op2F ixD (nameF 13) (cF (.int 1)))) nilF))) nilF)) nilF) (setA 11))
def g_law_b2 : G := (seqG (asgG (tupF (consF (cF (.int 0)) (consF (cF (.int 1)) nilF))) (setA 11))
    (seqG (forG (zipF (op2F ixD (nameF 8) (nameF 10)) (nameF 9)) (seqA 2 (consA (setA 12) (consA (setA 13) nilA))) g_law_b1)
    (ifG (tstF (op2F neD (nameF 11) (tupF (consF (opnF intD (consF (op2F eqD (nameF 10) (nameF 6)) nilF)) (consF (cF (.int 1)) nilF)))))
    (retG (cF (.bl false)))
    nextG)))
def g_law_b3 : G := (forG (rng1F (nameF 3)) (setA 10) g_law_b2)
def g_law_b4 : G := (seqG (asgG (callIoF F__law_pick 2 1 (consF (lstF (consF (cF (.int 1)) (consF (cF (.int 2)) (consF (cF (.int 5)) (consF (cF (.int 3)) (consF (cF (.int 4)) (consF (cF (.int 6)) nilF))))))) nilF)) (setA 3))
    (seqG (asgG (callIoF F__law_steps 3 1 (consF (nameF 3) (consF (ifF (tstF (op2F eqD (nameF 2) (cF (.int 0)))) (cF (.int 12)) (cF (.int 4))) nilF))) (setA 4))
    (seqG (asgG (makeF "Lift" F_Lift___init__ 3 (consF (nameF 3) (consF (nameF 4) nilF))) (setA 5))
    (seqG (ifG (orT (tstF (op2F neD (opnF reprD (consF (methF "Lift" "far" F_Lift_far 1 (pickG 1 0 [] [0]) (nameF 5) nilF nilF) nilF)) (opnF reprD (consF (callF F__law_far 2 (pickG 2 0 [] [0, 1]) (consF (nameF 3) (consF (nameF 4) nilF)) nilF) nilF)))) (notT (tstF (callIoF F__law_shifts_right 4 1 (consF (nameF 3) (consF (nameF 4) (consF (nameF 5) nilF)))))))
    (retG (cF (.bl false)))
    nextG)
    (seqG (setNG 7 (compN (rng1F (nameF 3)) [6] (setA 6) yesT (lstF' (compN (iterF (methF "Lift" "far" F_Lift_far 1 (pickG 1 0 [] [0]) (nameF 5) nilF nilF)) [14] (setA 14) yesT (op2F ixD (nameF 14) (nameF 6))))))
    (seqG (asgG (methF "Lift" "far" F_Lift_far 1 (pickG 1 0 [] [0]) (methF "Lift" "undone" F_Lift_undone 1 (pickG 1 0 [] [0]) (nameF 5) nilF nilF) nilF nilF) (setA 8))
    (forG (enumF (nameF 7)) (seqA 2 (consA (setA 6) (consA (setA 9) nilA))) g_law_b3)))))))
def g_law : G := (seqG (setNG 1 (callN F__law_pen 1 (pickG 1 0 [] [0]) (consF (nameF 0) nilF) nilF))
    (seqG (forG (rng1F (cF (.int 5))) (setA 2) g_law_b4)
    (retG (op2F eqD (methF "Lift" "far" F_Lift_far 1 (pickG 1 0 [] [0]) (makeF "Lift" F_Lift___init__ 3 (consF (cF (.int 2)) (consF (lstF (consF (tupF (consF (cF (.int 0)) (consF (lstF (consF (tupF (consF (cF (.int 1)) (consF (op1F negD (cF (.int 1))) nilF))) nilF)) (consF (cF (.int 0)) (consF (cF (.int 1)) nilF))))) (consF (tupF (consF (cF (.int 1)) (consF (lstF (consF (tupF (consF (cF (.int 0)) (consF (cF (.int 1)) nilF))) nilF)) (consF (cF (.int 5)) (consF (cF (.int 2)) nilF))))) nilF))) nilF))) nilF nilF) (tupF (consF (tupF (consF (tupF (consF (cF (.int 1)) (consF (cF (.int 1)) nilF))) (consF (tupF (consF (op1F negD (cF (.int 1))) (consF (cF (.int 1)) nilF))) nilF))) (consF (tupF (consF (tupF (consF (cF (.int 1)) (consF (cF (.int 2)) nilF))) (consF (tupF (consF (cF (.int 1)) (consF (cF (.int 2)) nilF))) nilF))) nilF)))))))
def F_law : List D → FR := bodyF 15 false g_law
/-! ### what the text holds -/
structure Txt (K : PySem.W.Frag) (mg : Str → Option Value) : Prop where
  a__law_pen : FunAt K mg "_law_pen" s__law_pen
  a__law_draw : FunAt K mg "_law_draw" s__law_draw
  a__law_pick : FunAt K mg "_law_pick" s__law_pick
  a__law_step : FunAt K mg "_law_step" s__law_step
  a__law_steps : FunAt K mg "_law_steps" s__law_steps
  a_is_integer : FunAt K mg "is_integer" s_is_integer
  a_is_within : FunAt K mg "is_within" s_is_within
  a_need_within : FunAt K mg "need_within" s_need_within
  a_need_width : FunAt K mg "need_width" s_need_width
  a_is_row : FunAt K mg "is_row" s_is_row
  a_is_slot : FunAt K mg "is_slot" s_is_slot
  a_are_parts : FunAt K mg "are_parts" s_are_parts
  a_is_step : FunAt K mg "is_step" s_is_step
  a_need_steps : FunAt K mg "need_steps" s_need_steps
  a_Lift___init__ : InitAt K mg "Lift" "Lift.__init__" s_Lift___init__
  a_in_terms : FunAt K mg "in_terms" s_in_terms
  a_far_sum : FunAt K mg "far_sum" s_far_sum
  a_Lift_far : MethAt K "Lift" "far" "Lift.far" s_Lift_far
  a__law_gcd : FunAt K mg "_law_gcd" s__law_gcd
  a__law_sum : FunAt K mg "_law_sum" s__law_sum
  a__law_far : FunAt K mg "_law_far" s__law_far
  a__law_number : FunAt K mg "_law_number" s__law_number
  a__law_block : FunAt K mg "_law_block" s__law_block
  a_is_block : FunAt K mg "is_block" s_is_block
  a_need_block : FunAt K mg "need_block" s_need_block
  a_share : FunAt K mg "share" s_share
  a_Lift_forth : MethAt K "Lift" "forth" "Lift.forth" s_Lift_forth
  a__law_led : FunAt K mg "_law_led" s__law_led
  a__law_shifts_right : FunAt K mg "_law_shifts_right" s__law_shifts_right
  a_raw_lift : FunAt K mg "raw_lift" s_raw_lift
  a_turned_step : FunAt K mg "turned_step" s_turned_step
  a_Lift_undone : MethAt K "Lift" "undone" "Lift.undone" s_Lift_undone
  a_law : FunAt K mg "law" s_law
  z_abs : mg "abs" = none
  z_all : mg "all" = none
  z_bool : mg "bool" = none
  z_enumerate : mg "enumerate" = none
  z_int : mg "int" = none
  z_isinstance : mg "isinstance" = none
  z_len : mg "len" = none
  z_list : mg "list" = none
  z_range : mg "range" = none
  z_repr : mg "repr" = none
  z_sum : mg "sum" = none
  z_tuple : mg "tuple" = none
  z_zip : mg "zip" = none
  c_MOST_ADD : Cn K mg "MOST_ADD" (.int 99)
  c_MOST_OVER : Cn K mg "MOST_OVER" (.int 9)
  c_MOST_STEPS : Cn K mg "MOST_STEPS" (.int 12)
  c_MOST_TIMES : Cn K mg "MOST_TIMES" (.int 9)
  c_WIDEST : Cn K mg "WIDEST" (.int 6)
  m_gcd : mg "gcd" = some (.builtin "math.gcd")
  at_Lift_steps : AttrOk K "Lift" "steps"
  at_Lift_width : AttrOk K "Lift" "width"
end Fx

set_option Elab.async false
set_option linter.all false
set_option maxRecDepth 100000
set_option maxHeartbeats 4000000
namespace Fx
open PySem L2 PyProof.Rows
section
variable {P : Program} {w : World} {K : PySem.W.Frag} {mg : Str → Option Value} {base : Heap}
theorem kn__law_pen (T : Txt K mg) : Kn P w K mg base "_law_pen" "_law_pen" s__law_pen 1 false ["script"] F__law_pen := .of (g := g__law_pen) T.a__law_pen sc__law_pen rfl fun f cdv A outer s H E hr hgd B hB =>
    (ss_one (ss_retN (sn_lst (sa_cons (se_new (sn_T hB.symm c_list bt_list T.z_list (sa_cons (se_sl hB.symm (se_name 0) so_none (so_some se_int)) sa_nil))) (sa_cons se_int (sa_cons se_int sa_nil))))))
theorem kn__law_draw (T : Txt K mg) : Kn P w K mg base "_law_draw" "_law_draw" s__law_draw 1 true ["pen", "many"] F__law_draw := .of (g := g__law_draw) T.a__law_draw sc__law_draw rfl fun f cdv A outer s H E hr hgd B hB =>
    (ss_cons (ss_if (st_C hB.symm op_gtD (se_ixOwn 0 hB.symm se_int) se_int)
    (ss_cons (ss_set (i := 2) sc__law_draw.nd rfl (.inl rfl) (se_O hB.symm op_modD (se_T hB.symm c_int bt_int T.z_int (sa_cons (se_ixOwn 0 hB.symm se_int) sa_nil)) (se_name 1)))
    (ss_cons (ss_setIx 0 hB.symm se_int (se_O hB.symm op_fdivD (se_T hB.symm c_int bt_int T.z_int (sa_cons (se_ixOwn 0 hB.symm se_int) sa_nil)) (se_name 1)))
    (ss_one (ss_ret (se_name 2)))))
    ss_nil)
    (ss_cons (ss_set (i := 3) sc__law_draw.nd rfl (.inl rfl) (se_ixOwn 0 hB.symm se_int))
    (ss_cons (ss_setIx 0 hB.symm se_int (se_O hB.symm op_addD (se_name 3) se_int))
    (ss_cons (ss_set (i := 4) sc__law_draw.nd rfl (.inl rfl) (se_O hB.symm op_addD (se_O hB.symm op_mulD se_int (se_name 3)) se_int))
    (ss_cons (ss_if (st_C hB.symm (op_neDD hr.units) (se_ixOwn 0 hB.symm se_int) (se_lst sa_nil))
    (ss_one (ss_set (i := 4) sc__law_draw.nd rfl (.inl rfl) (se_ix hB.symm (se_ixOwn 0 hB.symm se_int) (se_O hB.symm op_modD (se_T hB.symm c_int bt_int T.z_int (sa_cons (se_name 3) sa_nil)) (se_B hB.symm c_len bt_len T.z_len (sa_cons (se_ixOwn 0 hB.symm se_int) sa_nil))))))
    ss_nil)
    (ss_cons (ss_if (SW.st (sw_and (st_C hB.symm op_ltD (se_name 3) (se_B hB.symm c_len bt_len T.z_len (sa_cons (se_ixOwn 0 hB.symm se_int) sa_nil))) (sw_and1 (st_C hB.symm op_geD (se_B hB.symm c_abs bt_abs T.z_abs (sa_cons (se_name 4) sa_nil)) (se_O hB.symm op_powD se_int se_int)))))
    (ss_cons (ss_set (i := 5) sc__law_draw.nd rfl (.inl rfl) (se_O hB.symm op_addD (se_O hB.symm op_mulD se_int (se_O hB.symm op_subD (se_B hB.symm c_abs bt_abs T.z_abs (sa_cons (se_name 4) sa_nil)) (se_O hB.symm op_powD se_int se_int))) (se_T hB.symm c_int bt_int T.z_int (sa_cons (se_C hB.symm op_ltD (se_name 4) se_int) sa_nil))))
    (ss_cons (ss_setIx 0 hB.symm se_int (se_O hB.symm op_fdivD (se_T hB.symm c_int bt_int T.z_int (sa_cons (se_name 5) sa_nil)) (se_name 1)))
    (ss_one (ss_ret (se_O hB.symm op_modD (se_T hB.symm c_int bt_int T.z_int (sa_cons (se_name 5) sa_nil)) (se_name 1))))))
    ss_nil)
    (ss_cons (ss_set (i := 6) sc__law_draw.nd rfl (.inl rfl) (se_O hB.symm op_modD (se_T hB.symm c_int bt_int T.z_int (sa_cons (se_O hB.symm op_powD (se_O hB.symm op_addD (se_O hB.symm op_addD (se_O hB.symm op_modD (se_T hB.symm c_int bt_int T.z_int (sa_cons (se_name 4) sa_nil)) se_int) (se_O hB.symm op_mulD se_int (se_name 3))) se_int) se_int) sa_nil)) se_int))
    (ss_cons (ss_set (i := 6) sc__law_draw.nd rfl (.inl rfl) (se_O hB.symm op_modD (se_T hB.symm c_int bt_int T.z_int (sa_cons (se_O hB.symm op_powD (se_O hB.symm op_addD (se_O hB.symm op_addD (se_O hB.symm op_mulD (se_name 6) (se_O hB.symm op_addD (se_O hB.symm op_mulD se_int (se_name 3)) se_int)) (se_O hB.symm op_mulD (se_O hB.symm op_mulD se_int (se_name 3)) (se_name 3))) se_int) se_int) sa_nil)) se_int))
    (ss_one (ss_ret (se_O hB.symm op_modD (se_T hB.symm c_int bt_int T.z_int (sa_cons (se_O hB.symm op_fdivD (se_name 6) se_int) sa_nil)) (se_name 1))))))))))))
theorem kn__law_pick (T : Txt K mg) : Kn P w K mg base "_law_pick" "_law_pick" s__law_pick 2 true ["pen", "some"] F__law_pick := .of (g := g__law_pick) T.a__law_pick sc__law_pick rfl fun f cdv A outer s H E hr hgd B hB =>
    (ss_one (ss_ret (se_ix hB.symm (se_name 1) (se_callIo 0 ((kn__law_draw T).dnIo ⟨rfl, rfl, rfl, rfl, rfl⟩ hB hr (by decide) hgd (by rfl) (takes_of rfl rfl rfl rfl) (by decide) (fun _ _ _ _ _ _ us ws h1 h2 => match us, ws, h1, h2 with | [_, _], [], _, _ => rfl)) (sa_cons (se_B hB.symm c_len bt_len T.z_len (sa_cons (se_name 1) sa_nil)) sa_nil)))))
theorem kn__law_step (T : Txt K mg) : Kn P w K mg base "_law_step" "_law_step" s__law_step 3 true ["pen", "width"] F__law_step := .of (g := g__law_step) T.a__law_step sc__law_step rfl fun f cdv A outer s H E hr hgd B hB =>
    (ss_cons (ss_par3M (i := 2) (j := 3) (l := 4) rfl sc__law_step.nd rfl rfl rfl (by decide) (by decide) (by decide) rfl rfl rfl (sm_va (se_callIo 0 ((kn__law_draw T).dnIo ⟨rfl, rfl, rfl, rfl, rfl⟩ hB hr (by decide) hgd (by rfl) (takes_of rfl rfl rfl rfl) (by decide) (fun _ _ _ _ _ _ us ws h1 h2 => match us, ws, h1, h2 with | [_, _], [], _, _ => rfl)) (sa_cons (se_name 1) sa_nil)) (sm_ow (sn_lst sa_nil) (fun B1 h1 => (sm_va (se_callIo 0 ((kn__law_draw T).dnIo ⟨rfl, rfl, rfl, rfl, rfl⟩ (h1.trans hB) hr (by decide) hgd (by rfl) (takes_of rfl rfl rfl rfl) (by decide) (fun _ _ _ _ _ _ us ws h1 h2 => match us, ws, h1, h2 with | [_, _], [], _, _ => rfl)) (sa_cons se_int sa_nil)) sm_nil)))) (by rfl))
    (ss_cons (ss_for (passes_of rfl) rfl (si_rng1 (by rfl) T.z_range (se_name 1)) (sg_name sc__law_step.nd (i := 5) rfl (.inl rfl))
    (ss_one (ss_if (SW.st (sw_and (st_C hB.symm (op_neDD hr.units) (se_name 5) (se_name 2)) (sw_and1 (st_C hB.symm op_gtD (se_callIo 0 ((kn__law_draw T).dnIo ⟨rfl, rfl, rfl, rfl, rfl⟩ hB hr (by decide) hgd (by rfl) (takes_of rfl rfl rfl rfl) (by decide) (fun _ _ _ _ _ _ us ws h1 h2 => match us, ws, h1, h2 with | [_, _], [], _, _ => rfl)) (sa_cons se_int sa_nil)) se_int))))
    (ss_one (ss_app 3 hB.symm (ps_expr (pe_bm PySem.F.plainAttrs_list PySem.F.slot_list_append PySem.F.type_list_append mt_append (pv 3) (pa_cons (se_tup (sa_cons (se_name 5) (sa_cons (se_callIo 0 ((kn__law_pick T).dnIo ⟨rfl, rfl, rfl, rfl, rfl⟩ hB hr (by decide) hgd (by rfl) (takes_of rfl rfl rfl rfl) (by decide) (fun _ _ _ _ _ _ us ws h1 h2 => match us, ws, h1, h2 with | [_, _], [], _, _ => rfl)) (sa_cons (se_lst (sa_cons se_int (sa_cons (se_neg hB.symm se_int) (sa_cons se_int (sa_cons (se_neg hB.symm se_int) (sa_cons se_int (sa_cons (se_neg hB.symm se_int) (sa_cons se_int (sa_cons se_int (sa_cons (se_neg hB.symm se_int) sa_nil)))))))))) sa_nil)) sa_nil))) pa_nil)))))
    ss_nil)))
    (ss_cons (ss_par (i := 6) (j := 7) rfl sc__law_step.nd rfl rfl (by decide) rfl rfl (sa_cons (se_callIo 0 ((kn__law_pick T).dnIo ⟨rfl, rfl, rfl, rfl, rfl⟩ hB hr (by decide) hgd (by rfl) (takes_of rfl rfl rfl rfl) (by decide) (fun _ _ _ _ _ _ us ws h1 h2 => match us, ws, h1, h2 with | [_, _], [], _, _ => rfl)) (sa_cons (se_lst (sa_cons se_int (sa_cons se_int (sa_cons se_int (sa_cons (se_neg hB.symm se_int) (sa_cons (se_O hB.symm op_subD (se_callIo 0 ((kn__law_draw T).dnIo ⟨rfl, rfl, rfl, rfl, rfl⟩ hB hr (by decide) hgd (by rfl) (takes_of rfl rfl rfl rfl) (by decide) (fun _ _ _ _ _ _ us ws h1 h2 => match us, ws, h1, h2 with | [_, _], [], _, _ => rfl)) (sa_cons se_int sa_nil)) se_int) sa_nil)))))) sa_nil)) (sa_cons (se_callIo 0 ((kn__law_pick T).dnIo ⟨rfl, rfl, rfl, rfl, rfl⟩ hB hr (by decide) hgd (by rfl) (takes_of rfl rfl rfl rfl) (by decide) (fun _ _ _ _ _ _ us ws h1 h2 => match us, ws, h1, h2 with | [_, _], [], _, _ => rfl)) (sa_cons (se_lst (sa_cons se_int (sa_cons se_int (sa_cons se_int (sa_cons se_int (sa_cons (se_O hB.symm op_addD se_int (se_callIo 0 ((kn__law_draw T).dnIo ⟨rfl, rfl, rfl, rfl, rfl⟩ hB hr (by decide) hgd (by rfl) (takes_of rfl rfl rfl rfl) (by decide) (fun _ _ _ _ _ _ us ws h1 h2 => match us, ws, h1, h2 with | [_, _], [], _, _ => rfl)) (sa_cons se_int sa_nil))) sa_nil)))))) sa_nil)) sa_nil)) (by rfl))
    (ss_one (ss_ret (se_tup (sa_cons (se_name 2) (sa_cons (se_T hB.symm c_tuple bt_tuple T.z_tuple (sa_cons (se_name 3) sa_nil)) (sa_cons (se_if (st_C hB.symm (op_eqDD hr.units) (se_name 4) se_int) se_int (se_name 6)) (sa_cons (se_if (st_C hB.symm (op_eqDD hr.units) (se_name 4) se_int) se_int (se_name 7)) sa_nil))))))))))
theorem kn__law_steps (T : Txt K mg) : Kn P w K mg base "_law_steps" "_law_steps" s__law_steps 4 true ["pen", "width", "most"] F__law_steps := .of (g := g__law_steps) T.a__law_steps sc__law_steps rfl fun f cdv A outer s H E hr hgd B hB =>
    (ss_one (ss_ret (se_T hB.symm c_tuple bt_tuple T.z_tuple (sa_cons (se_new (sn_lc rfl sc__law_steps.nd (si_rng1 (by rfl) T.z_range (se_callIo 0 ((kn__law_draw T).dnIo ⟨rfl, rfl, rfl, rfl, rfl⟩ hB hr (by decide) hgd (by rfl) (takes_of rfl rfl rfl rfl) (by decide) (fun _ _ _ _ _ _ us ws h1 h2 => match us, ws, h1, h2 with | [_, _], [], _, _ => rfl)) (sa_cons (se_O hB.symm op_addD (se_name 2) se_int) sa_nil))) (blkOk_by (own := [("turn", 3)]) (by rfl)) (fun _ _ _ _ _ B1 h1 => (sg_name sc__law_steps.nd (i := 3) rfl (by first | exact .inl rfl | exact .inr rfl))) (fun _ _ _ _ _ B1 h1 => sts_nil) (fun _ _ _ _ _ B1 h1 => (se_callIo 0 ((kn__law_step T).dnIo ⟨rfl, rfl, rfl, rfl, rfl⟩ (h1.trans hB) hr (by decide) hgd (by rfl) takes0 (by decide) (fun _ _ _ _ _ _ us ws h1 h2 => match us, ws, h1, h2 with | [_, _], [], _, _ => rfl)) (sa_cons (se_name 1) sa_nil))) (by decide))) sa_nil))))
theorem kn_is_integer (T : Txt K mg) : Kn P w K mg base "is_integer" "is_integer" s_is_integer 1 false ["value"] F_is_integer := .of (g := g_is_integer) T.a_is_integer sc_is_integer rfl fun f cdv A outer s H E hr hgd B hB =>
    (ss_one (ss_ret (se_and (se_B hB.symm c_isi bt_isinstance T.z_isinstance (sa_cons (se_name 0) (sa_cons (se_bltn (n := "int") (by rfl) T.z_int bt_int) sa_nil))) (se_one (se_not (se_B hB.symm c_isi bt_isinstance T.z_isinstance (sa_cons (se_name 0) (sa_cons (se_bltn (n := "bool") (by rfl) T.z_bool bt_bool) sa_nil))))))))
theorem kn_is_within (T : Txt K mg) : Kn P w K mg base "is_within" "is_within" s_is_within 2 false ["value", "least", "most"] F_is_within := .of (g := g_is_within) T.a_is_within sc_is_within rfl fun f cdv A outer s H E hr hgd B hB =>
    (ss_cons (ss_if (st_not (st_val (se_call ((kn_is_integer T).dn (n1 := 1) (ks := []) (idx := [0]) ⟨rfl, rfl, rfl, rfl, rfl⟩ hB hr (by decide) hgd (by rfl) (takes_of rfl rfl rfl rfl) (by decide) (fun _ _ _ _ _ _ us ws h1 h2 => match us, ws, h1, h2 with | [_], [], _, _ => rfl)) (sa_cons (se_name 0) sa_nil))))
    (ss_one (ss_ret se_bl))
    ss_nil)
    (ss_one (ss_ret (se_and (se_or (se_C hB.symm op_isD (se_name 1) se_non) (se_one (se_C hB.symm op_geD (se_name 0) (se_name 1)))) (se_one (se_or (se_C hB.symm op_isD (se_name 2) se_non) (se_one (se_C hB.symm op_leD (se_name 0) (se_name 2)))))))))
theorem kn_need_within (T : Txt K mg) : Kn P w K mg base "need_within" "need_within" s_need_within 3 false ["value", "least", "most", "part"] F_need_within := .of (g := g_need_within) T.a_need_within sc_need_within rfl fun f cdv A outer s H E hr hgd B hB =>
    (ss_one (ss_if (st_not (st_val (se_call ((kn_is_within T).dn (n1 := 3) (ks := []) (idx := [0, 1, 2]) ⟨rfl, rfl, rfl, rfl, rfl⟩ hB hr (by decide) hgd (by rfl) (takes_of rfl rfl rfl rfl) (by decide) (fun _ _ _ _ _ _ us ws h1 h2 => match us, ws, h1, h2 with | [_, _, _], [], _, _ => rfl)) (sa_cons (se_name 0) (sa_cons (se_name 1) (sa_cons (se_name 2) sa_nil))))))
    (ss_one ss_never)
    ss_nil))
theorem kn_need_width (T : Txt K mg) : Kn P w K mg base "need_width" "need_width" s_need_width 4 false ["value"] F_need_width := .of (g := g_need_width) T.a_need_width sc_need_width rfl fun f cdv A outer s H E hr hgd B hB =>
    (ss_one (ss_expr (se_call ((kn_need_within T).dn (n1 := 4) (ks := []) (idx := [0, 1, 2, 3]) ⟨rfl, rfl, rfl, rfl, rfl⟩ hB hr (by decide) hgd (by rfl) (takes_of rfl rfl rfl rfl) (by decide) (fun _ _ _ _ _ _ us ws h1 h2 => match us, ws, h1, h2 with | [_, _, _, _], [], _, _ => rfl)) (sa_cons (se_name 0) (sa_cons se_int (sa_cons (se_glob (by rfl) (T.c_WIDEST.glb rfl hB)) (sa_cons se_str sa_nil)))))))
theorem kn_is_row (T : Txt K mg) : Kn P w K mg base "is_row" "is_row" s_is_row 1 false ["value", "most"] F_is_row := .of (g := g_is_row) T.a_is_row sc_is_row rfl fun f cdv A outer s H E hr hgd B hB =>
    (ss_one (ss_ret (se_and (se_B hB.symm c_isi bt_isinstance T.z_isinstance (sa_cons (se_name 0) (sa_cons (se_tup (sa_cons (se_bltn (n := "list") (by rfl) T.z_list bt_list) (sa_cons (se_bltn (n := "tuple") (by rfl) T.z_tuple bt_tuple) sa_nil))) sa_nil))) (se_one (se_C hB.symm op_leD (se_B hB.symm c_len bt_len T.z_len (sa_cons (se_name 0) sa_nil)) (se_name 1))))))
theorem kn_is_slot (T : Txt K mg) : Kn P w K mg base "is_slot" "is_slot" s_is_slot 5 false ["value", "width"] F_is_slot := .of (g := g_is_slot) T.a_is_slot sc_is_slot rfl fun f cdv A outer s H E hr hgd B hB =>
    (ss_cons (ss_expr (se_call ((kn_need_width T).dn (n1 := 1) (ks := []) (idx := [0]) ⟨rfl, rfl, rfl, rfl, rfl⟩ hB hr (by decide) hgd (by rfl) (takes_of rfl rfl rfl rfl) (by decide) (fun _ _ _ _ _ _ us ws h1 h2 => match us, ws, h1, h2 with | [_], [], _, _ => rfl)) (sa_cons (se_name 1) sa_nil)))
    (ss_one (ss_ret (se_call ((kn_is_within T).dn (n1 := 3) (ks := []) (idx := [0, 1, 2]) ⟨rfl, rfl, rfl, rfl, rfl⟩ hB hr (by decide) hgd (by rfl) (takes_of rfl rfl rfl rfl) (by decide) (fun _ _ _ _ _ _ us ws h1 h2 => match us, ws, h1, h2 with | [_, _, _], [], _, _ => rfl)) (sa_cons (se_name 0) (sa_cons se_int (sa_cons (se_O hB.symm op_subD (se_name 1) se_int) sa_nil)))))))
theorem kn_are_parts (T : Txt K mg) : Kn P w K mg base "are_parts" "are_parts" s_are_parts 6 false ["value", "target", "width"] F_are_parts := .of (g := g_are_parts) T.a_are_parts sc_are_parts rfl fun f cdv A outer s H E hr hgd B hB =>
    (ss_cons (ss_if (st_not (st_val (se_call ((kn_is_row T).dn (n1 := 2) (ks := []) (idx := [0, 1]) ⟨rfl, rfl, rfl, rfl, rfl⟩ hB hr (by decide) hgd (by rfl) (takes_of rfl rfl rfl rfl) (by decide) (fun _ _ _ _ _ _ us ws h1 h2 => match us, ws, h1, h2 with | [_, _], [], _, _ => rfl)) (sa_cons (se_name 0) (sa_cons (se_O hB.symm op_subD (se_name 2) se_int) sa_nil)))))
    (ss_one (ss_ret se_bl))
    ss_nil)
    (ss_cons (ss_for (passes_of rfl) rfl (si_seq hB.symm (se_name 0)) (sg_name sc_are_parts.nd (i := 3) rfl (.inl rfl))
    (ss_cons (ss_if (SW.st (sw_or (st_not (st_val (se_call ((kn_is_row T).dn (n1 := 2) (ks := []) (idx := [0, 1]) ⟨rfl, rfl, rfl, rfl, rfl⟩ hB hr (by decide) hgd (by rfl) (takes_of rfl rfl rfl rfl) (by decide) (fun _ _ _ _ _ _ us ws h1 h2 => match us, ws, h1, h2 with | [_, _], [], _, _ => rfl)) (sa_cons (se_name 3) (sa_cons se_int sa_nil))))) (sw_or (st_C hB.symm (op_neDD hr.units) (se_B hB.symm c_len bt_len T.z_len (sa_cons (se_name 3) sa_nil)) se_int) (sw_or (st_not (st_val (se_call ((kn_is_slot T).dn (n1 := 2) (ks := []) (idx := [0, 1]) ⟨rfl, rfl, rfl, rfl, rfl⟩ hB hr (by decide) hgd (by rfl) (takes_of rfl rfl rfl rfl) (by decide) (fun _ _ _ _ _ _ us ws h1 h2 => match us, ws, h1, h2 with | [_, _], [], _, _ => rfl)) (sa_cons (se_ix hB.symm (se_name 3) se_int) (sa_cons (se_name 2) sa_nil))))) (sw_or1 (st_C hB.symm (op_eqDD hr.units) (se_ix hB.symm (se_name 3) se_int) (se_name 1)))))))
    (ss_one (ss_ret se_bl))
    ss_nil)
    (ss_one (ss_if (SW.st (sw_or (st_not (st_val (se_call ((kn_is_within T).dn (n1 := 3) (ks := []) (idx := [0, 1, 2]) ⟨rfl, rfl, rfl, rfl, rfl⟩ hB hr (by decide) hgd (by rfl) (takes_of rfl rfl rfl rfl) (by decide) (fun _ _ _ _ _ _ us ws h1 h2 => match us, ws, h1, h2 with | [_, _, _], [], _, _ => rfl)) (sa_cons (se_ix hB.symm (se_name 3) se_int) (sa_cons (se_neg hB.symm (se_glob (by rfl) (T.c_MOST_TIMES.glb rfl hB))) (sa_cons (se_glob (by rfl) (T.c_MOST_TIMES.glb rfl hB)) sa_nil)))))) (sw_or1 (st_C hB.symm (op_eqDD hr.units) (se_ix hB.symm (se_name 3) se_int) se_int))))
    (ss_one (ss_ret se_bl))
    ss_nil))))
    (ss_one (ss_ret (se_B hB.symm (c_all rfl) bt_all T.z_all (sa_cons (se_new (sn_lc rfl sc_are_parts.nd (si_zip hB.symm (by rfl) T.z_zip (se_name 0) (se_sl hB.symm (se_name 0) (so_some se_int) so_none)) (blkOk_by (own := [("one", 4), ("other", 5)]) (by rfl)) (fun _ _ _ _ _ B1 h1 => (sg_tup rfl (h1.trans hB).symm (sgs_cons (sg_name sc_are_parts.nd (i := 4) rfl (by first | exact .inl rfl | exact .inr rfl)) (sgs_cons (sg_name sc_are_parts.nd (i := 5) rfl (by first | exact .inl rfl | exact .inr rfl)) sgs_nil)))) (fun _ _ _ _ _ B1 h1 => sts_nil) (fun _ _ _ _ _ B1 h1 => (se_C (h1.trans hB).symm op_ltD (se_ix (h1.trans hB).symm (se_name 4) se_int) (se_ix (h1.trans hB).symm (se_name 5) se_int))) (by decide))) sa_nil))))))
theorem kn_is_step (T : Txt K mg) : Kn P w K mg base "is_step" "is_step" s_is_step 7 false ["value", "width"] F_is_step := .of (g := g_is_step) T.a_is_step sc_is_step rfl fun f cdv A outer s H E hr hgd B hB =>
    (ss_cons (ss_expr (se_call ((kn_need_width T).dn (n1 := 1) (ks := []) (idx := [0]) ⟨rfl, rfl, rfl, rfl, rfl⟩ hB hr (by decide) hgd (by rfl) (takes_of rfl rfl rfl rfl) (by decide) (fun _ _ _ _ _ _ us ws h1 h2 => match us, ws, h1, h2 with | [_], [], _, _ => rfl)) (sa_cons (se_name 1) sa_nil)))
    (ss_cons (ss_if (SW.st (sw_or (st_not (st_val (se_call ((kn_is_row T).dn (n1 := 2) (ks := []) (idx := [0, 1]) ⟨rfl, rfl, rfl, rfl, rfl⟩ hB hr (by decide) hgd (by rfl) (takes_of rfl rfl rfl rfl) (by decide) (fun _ _ _ _ _ _ us ws h1 h2 => match us, ws, h1, h2 with | [_, _], [], _, _ => rfl)) (sa_cons (se_name 0) (sa_cons se_int sa_nil))))) (sw_or (st_C hB.symm (op_neDD hr.units) (se_B hB.symm c_len bt_len T.z_len (sa_cons (se_name 0) sa_nil)) se_int) (sw_or1 (st_not (st_val (se_call ((kn_is_slot T).dn (n1 := 2) (ks := []) (idx := [0, 1]) ⟨rfl, rfl, rfl, rfl, rfl⟩ hB hr (by decide) hgd (by rfl) (takes_of rfl rfl rfl rfl) (by decide) (fun _ _ _ _ _ _ us ws h1 h2 => match us, ws, h1, h2 with | [_, _], [], _, _ => rfl)) (sa_cons (se_ix hB.symm (se_name 0) se_int) (sa_cons (se_name 1) sa_nil)))))))))
    (ss_one (ss_ret se_bl))
    ss_nil)
    (ss_cons (ss_if (st_not (st_val (se_call ((kn_are_parts T).dn (n1 := 3) (ks := []) (idx := [0, 1, 2]) ⟨rfl, rfl, rfl, rfl, rfl⟩ hB hr (by decide) hgd (by rfl) (takes_of rfl rfl rfl rfl) (by decide) (fun _ _ _ _ _ _ us ws h1 h2 => match us, ws, h1, h2 with | [_, _, _], [], _, _ => rfl)) (sa_cons (se_ix hB.symm (se_name 0) se_int) (sa_cons (se_ix hB.symm (se_name 0) se_int) (sa_cons (se_name 1) sa_nil))))))
    (ss_one (ss_ret se_bl))
    ss_nil)
    (ss_one (ss_ret (se_and (se_call ((kn_is_within T).dn (n1 := 3) (ks := []) (idx := [0, 1, 2]) ⟨rfl, rfl, rfl, rfl, rfl⟩ hB hr (by decide) hgd (by rfl) (takes_of rfl rfl rfl rfl) (by decide) (fun _ _ _ _ _ _ us ws h1 h2 => match us, ws, h1, h2 with | [_, _, _], [], _, _ => rfl)) (sa_cons (se_ix hB.symm (se_name 0) se_int) (sa_cons (se_neg hB.symm (se_glob (by rfl) (T.c_MOST_ADD.glb rfl hB))) (sa_cons (se_glob (by rfl) (T.c_MOST_ADD.glb rfl hB)) sa_nil)))) (se_one (se_call ((kn_is_within T).dn (n1 := 3) (ks := []) (idx := [0, 1, 2]) ⟨rfl, rfl, rfl, rfl, rfl⟩ hB hr (by decide) hgd (by rfl) (takes_of rfl rfl rfl rfl) (by decide) (fun _ _ _ _ _ _ us ws h1 h2 => match us, ws, h1, h2 with | [_, _, _], [], _, _ => rfl)) (sa_cons (se_ix hB.symm (se_name 0) se_int) (sa_cons se_int (sa_cons (se_glob (by rfl) (T.c_MOST_OVER.glb rfl hB)) sa_nil)))))))))))
theorem kn_need_steps (T : Txt K mg) : Kn P w K mg base "need_steps" "need_steps" s_need_steps 8 false ["value", "width"] F_need_steps := .of (g := g_need_steps) T.a_need_steps sc_need_steps rfl fun f cdv A outer s H E hr hgd B hB =>
    (ss_cons (ss_if (st_not (st_val (se_B hB.symm c_isi bt_isinstance T.z_isinstance (sa_cons (se_name 0) (sa_cons (se_tup (sa_cons (se_bltn (n := "list") (by rfl) T.z_list bt_list) (sa_cons (se_bltn (n := "tuple") (by rfl) T.z_tuple bt_tuple) sa_nil))) sa_nil)))))
    (ss_one ss_never)
    ss_nil)
    (ss_cons (ss_if (st_C hB.symm op_gtD (se_B hB.symm c_len bt_len T.z_len (sa_cons (se_name 0) sa_nil)) (se_glob (by rfl) (T.c_MOST_STEPS.glb rfl hB)))
    (ss_one ss_never)
    ss_nil)
    (ss_cons (ss_for (passes_of rfl) rfl (si_enum hB.symm (by rfl) T.z_enumerate (se_name 0)) (sg_tup rfl hB.symm (sgs_cons (sg_name sc_need_steps.nd (i := 2) rfl (.inl rfl)) (sgs_cons (sg_name sc_need_steps.nd (i := 3) rfl (.inl rfl)) sgs_nil)))
    (ss_one (ss_if (st_not (st_val (se_call ((kn_is_step T).dn (n1 := 2) (ks := []) (idx := [0, 1]) ⟨rfl, rfl, rfl, rfl, rfl⟩ hB hr (by decide) hgd (by rfl) (takes_of rfl rfl rfl rfl) (by decide) (fun _ _ _ _ _ _ us ws h1 h2 => match us, ws, h1, h2 with | [_, _], [], _, _ => rfl)) (sa_cons (se_name 3) (sa_cons (se_name 1) sa_nil)))))
    (ss_one ss_never)
    ss_nil)))
    (ss_one (ss_ret (se_T hB.symm c_tuple bt_tuple T.z_tuple (sa_cons (se_new (sn_lc rfl sc_need_steps.nd (si_seq hB.symm (se_name 0)) (blkOk_by (own := [("step", 3)]) (by rfl)) (fun _ _ _ _ _ B1 h1 => (sg_name sc_need_steps.nd (i := 3) rfl (by first | exact .inl rfl | exact .inr rfl))) (fun _ _ _ _ _ B1 h1 => sts_nil) (fun _ _ _ _ _ B1 h1 => (se_tup (sa_cons (se_ix (h1.trans hB).symm (se_name 3) se_int) (sa_cons (se_T (h1.trans hB).symm c_tuple bt_tuple T.z_tuple (sa_cons (se_new (sn_lc rfl sc_need_steps.nd (si_seq (h1.trans hB).symm (se_ix (h1.trans hB).symm (se_name 3) se_int)) (blkOk_by (own := [("part", 4)]) (by rfl)) (fun _ _ _ _ _ B2 h2 => (sg_name sc_need_steps.nd (i := 4) rfl (by first | exact .inl rfl | exact .inr rfl))) (fun _ _ _ _ _ B2 h2 => sts_nil) (fun _ _ _ _ _ B2 h2 => (se_T (h2.trans (h1.trans hB)).symm c_tuple bt_tuple T.z_tuple (sa_cons (se_name 4) sa_nil))) (by decide))) sa_nil)) (sa_cons (se_ix (h1.trans hB).symm (se_name 3) se_int) (sa_cons (se_ix (h1.trans hB).symm (se_name 3) se_int) sa_nil)))))) (by decide))) sa_nil)))))))
theorem kn_Lift___init__ (T : Txt K mg) : CKn P w K mg base "Lift" "Lift.__init__" s_Lift___init__ 9 ["self", "width", "steps"] F_Lift___init__ := .of (g := g_Lift___init__) T.a_Lift___init__ sc_Lift___init__ rfl fun f cdv A outer s H E hr hgd B hB =>
    (ss_cons (ss_expr (se_call ((kn_need_width T).dn (n1 := 1) (ks := []) (idx := [0]) ⟨rfl, rfl, rfl, rfl, rfl⟩ hB hr (by decide) hgd (by rfl) (takes_of rfl rfl rfl rfl) (by decide) (fun _ _ _ _ _ _ us ws h1 h2 => match us, ws, h1, h2 with | [_], [], _, _ => rfl)) (sa_cons (se_name 1) sa_nil)))
    (ss_cons (ss_fld 0 hB.symm (fun n hn => by rw [List.mem_singleton.mp hn, hB]; exact T.at_Lift_width) (se_name 1))
    (ss_one (ss_fld 0 hB.symm (fun n hn => by rw [List.mem_singleton.mp hn, hB]; exact T.at_Lift_steps) (se_call ((kn_need_steps T).dn (n1 := 2) (ks := []) (idx := [0, 1]) ⟨rfl, rfl, rfl, rfl, rfl⟩ hB hr (by decide) hgd (by rfl) (takes_of rfl rfl rfl rfl) (by decide) (fun _ _ _ _ _ _ us ws h1 h2 => match us, ws, h1, h2 with | [_, _], [], _, _ => rfl)) (sa_cons (se_name 2) (sa_cons (se_name 1) sa_nil)))))))
theorem kn_in_terms (T : Txt K mg) : Kn P w K mg base "in_terms" "in_terms" s_in_terms 1 false ["top", "bottom"] F_in_terms := .of (g := g_in_terms) T.a_in_terms sc_in_terms rfl fun f cdv A outer s H E hr hgd B hB =>
    (ss_cons (ss_set (i := 2) sc_in_terms.nd rfl (.inl rfl) (se_Bfun hB.symm c_gcd T.m_gcd (sa_cons (se_name 0) (sa_cons (se_name 1) sa_nil))))
    (ss_one (ss_ret (se_tup (sa_cons (se_O hB.symm op_fdivD (se_name 0) (se_name 2)) (sa_cons (se_O hB.symm op_fdivD (se_name 1) (se_name 2)) sa_nil))))))
theorem kn_far_sum (T : Txt K mg) : Kn P w K mg base "far_sum" "far_sum" s_far_sum 2 false ["rows", "step"] F_far_sum := .of (g := g_far_sum) T.a_far_sum sc_far_sum rfl fun f cdv A outer s H E hr hgd B hB =>
    (ss_cons (ss_asg (se_name 1) (sg_tup rfl hB.symm (sgs_cons (sg_name sc_far_sum.nd (i := 2) rfl (.inl rfl)) (sgs_cons (sg_name sc_far_sum.nd (i := 3) rfl (.inl rfl)) (sgs_cons (sg_name sc_far_sum.nd (i := 4) rfl (.inl rfl)) (sgs_cons (sg_name sc_far_sum.nd (i := 5) rfl (.inl rfl)) sgs_nil))))))
    (ss_cons (ss_setN (i := 6) sc_far_sum.nd rfl (.inl rfl) (sn_T hB.symm c_list bt_list T.z_list (sa_cons (se_ix hB.symm (se_name 0) (se_name 2)) sa_nil)))
    (ss_cons (ss_for (passes_of rfl) rfl (si_seq hB.symm (se_name 3)) (sg_tup rfl hB.symm (sgs_cons (sg_name sc_far_sum.nd (i := 7) rfl (.inl rfl)) (sgs_cons (sg_name sc_far_sum.nd (i := 8) rfl (.inl rfl)) sgs_nil)))
    (ss_one (ss_for (passes_of rfl) rfl (si_enum hB.symm (by rfl) T.z_enumerate (se_ix hB.symm (se_name 0) (se_name 7))) (sg_tup rfl hB.symm (sgs_cons (sg_name sc_far_sum.nd (i := 9) rfl (.inl rfl)) (sgs_cons (sg_tup rfl hB.symm (sgs_cons (sg_name sc_far_sum.nd (i := 10) rfl (.inl rfl)) (sgs_cons (sg_name sc_far_sum.nd (i := 11) rfl (.inl rfl)) sgs_nil))) sgs_nil)))
    (ss_cons (ss_asg (se_ixOwn 6 hB.symm (se_name 9)) (sg_tup rfl hB.symm (sgs_cons (sg_name sc_far_sum.nd (i := 12) rfl (.inl rfl)) (sgs_cons (sg_name sc_far_sum.nd (i := 13) rfl (.inl rfl)) sgs_nil))))
    (ss_one (ss_setIx 6 hB.symm (se_name 9) (se_call ((kn_in_terms T).dn (n1 := 2) (ks := []) (idx := [0, 1]) ⟨rfl, rfl, rfl, rfl, rfl⟩ hB hr (by decide) hgd (by rfl) (takes_of rfl rfl rfl rfl) (by decide) (fun _ _ _ _ _ _ us ws h1 h2 => match us, ws, h1, h2 with | [_, _], [], _, _ => rfl)) (sa_cons (se_O hB.symm op_addD (se_O hB.symm op_mulD (se_O hB.symm op_mulD (se_name 12) (se_name 11)) (se_name 5)) (se_O hB.symm op_mulD (se_O hB.symm op_mulD (se_name 8) (se_name 10)) (se_name 13))) (sa_cons (se_O hB.symm op_mulD (se_O hB.symm op_mulD (se_name 13) (se_name 11)) (se_name 5)) sa_nil)))))))))
    (ss_one (ss_retV 6)))))
theorem kn_Lift_far (T : Txt K mg) : MKn P w K mg base "Lift" "far" "Lift.far" s_Lift_far 3 false ["self"] F_Lift_far := .of (g := g_Lift_far) T.a_Lift_far sc_Lift_far rfl fun f cdv A outer s H E hr hgd B hB =>
    (ss_cons (ss_setLc (i := 1) rfl sc_Lift_far.nd rfl rfl (by rfl) (si_rng1 (by rfl) T.z_range (se_fld hB.symm (fun n hn => by rw [List.mem_singleton.mp hn, hB]; exact T.at_Lift_width) (se_name 0))) (blkOk_by (own := [("slot", 3)]) (by rfl)) (fun _ _ _ _ _ B1 h1 => (sg_name sc_Lift_far.nd (i := 3) rfl (by first | exact .inl rfl | exact .inr rfl))) (fun _ _ _ _ _ B1 h1 => sts_nil) (fun _ _ _ _ _ B1 h1 => (se_new (sn_lc rfl sc_Lift_far.nd (si_rng1 (by rfl) T.z_range (se_fld (h1.trans hB).symm (fun n hn => by rw [List.mem_singleton.mp hn, (h1.trans hB)]; exact T.at_Lift_width) (se_name 0))) (blkOk_by (own := [("at", 4)]) (by rfl)) (fun _ _ _ _ _ B2 h2 => (sg_name sc_Lift_far.nd (i := 4) rfl (by first | exact .inl rfl | exact .inr rfl))) (fun _ _ _ _ _ B2 h2 => sts_nil) (fun _ _ _ _ _ B2 h2 => (se_tup (sa_cons (se_T (h2.trans (h1.trans hB)).symm c_int bt_int T.z_int (sa_cons (se_C (h2.trans (h1.trans hB)).symm (op_eqDD hr.units) (se_name 4) (se_name 3)) sa_nil)) (sa_cons se_int sa_nil)))) (by decide)))) (by decide))
    (ss_cons (ss_for (passes_of rfl) rfl (si_seq hB.symm (se_fld hB.symm (fun n hn => by rw [List.mem_singleton.mp hn, hB]; exact T.at_Lift_steps) (se_name 0))) (sg_name sc_Lift_far.nd (i := 2) rfl (.inl rfl))
    (ss_one (ss_setIx 1 hB.symm (se_ix hB.symm (se_name 2) se_int) (se_callL (L := [1]) ((kn_far_sum T).dnL ⟨rfl, rfl, rfl, rfl, rfl⟩ hB hr (by decide) hgd (by rfl) (takes_of rfl rfl rfl rfl) (by decide) (fun _ _ _ _ _ _ us ws h1 h2 => match us, ws, h1, h2 with | [_, _], [], _, _ => rfl)) (sl_lend 1 (by decide) (sl_name 2 sl_nil))))))
    (ss_one (ss_ret (se_T hB.symm c_tuple bt_tuple T.z_tuple (sa_cons (se_new (sn_lc rfl sc_Lift_far.nd (si_seq hB.symm (se_name 1)) (blkOk_by (own := [("row", 5)]) (by rfl)) (fun _ _ _ _ _ B1 h1 => (sg_name sc_Lift_far.nd (i := 5) rfl (by first | exact .inl rfl | exact .inr rfl))) (fun _ _ _ _ _ B1 h1 => sts_nil) (fun _ _ _ _ _ B1 h1 => (se_T (h1.trans hB).symm c_tuple bt_tuple T.z_tuple (sa_cons (se_name 5) sa_nil))) (by decide))) sa_nil))))))
theorem kn__law_gcd (T : Txt K mg) : Kn P w K mg base "_law_gcd" "_law_gcd" s__law_gcd 1 false ["one", "other"] F__law_gcd := .of (g := g__law_gcd) T.a__law_gcd sc__law_gcd rfl fun f cdv A outer s H E hr hgd B hB =>
    (ss_cons (ss_par (i := 0) (j := 1) rfl sc__law_gcd.nd rfl rfl (by decide) rfl rfl (sa_cons (se_B hB.symm c_abs bt_abs T.z_abs (sa_cons (se_T hB.symm c_int bt_int T.z_int (sa_cons (se_name 0) sa_nil)) sa_nil)) (sa_cons (se_B hB.symm c_abs bt_abs T.z_abs (sa_cons (se_T hB.symm c_int bt_int T.z_int (sa_cons (se_name 1) sa_nil)) sa_nil)) sa_nil)) (by rfl))
    (ss_cons (ss_while 1000000 (passes_of rfl) (st_C hB.symm (op_neDD hr.units) (se_name 1) se_int)
    (ss_one (ss_par (i := 0) (j := 1) rfl sc__law_gcd.nd rfl rfl (by decide) rfl rfl (sa_cons (se_name 1) (sa_cons (se_O hB.symm op_modD (se_T hB.symm c_int bt_int T.z_int (sa_cons (se_name 0) sa_nil)) (se_name 1)) sa_nil)) (by rfl))))
    (ss_one (ss_ret (se_name 0)))))
theorem kn__law_sum (T : Txt K mg) : Kn P w K mg base "_law_sum" "_law_sum" s__law_sum 2 false ["one", "other"] F__law_sum := .of (g := g__law_sum) T.a__law_sum sc__law_sum rfl fun f cdv A outer s H E hr hgd B hB =>
    (ss_cons (ss_par (i := 2) (j := 3) rfl sc__law_sum.nd rfl rfl (by decide) rfl rfl (sa_cons (se_O hB.symm op_addD (se_O hB.symm op_mulD (se_ix hB.symm (se_name 0) se_int) (se_ix hB.symm (se_name 1) se_int)) (se_O hB.symm op_mulD (se_ix hB.symm (se_name 1) se_int) (se_ix hB.symm (se_name 0) se_int))) (sa_cons (se_O hB.symm op_mulD (se_ix hB.symm (se_name 0) se_int) (se_ix hB.symm (se_name 1) se_int)) sa_nil)) (by rfl))
    (ss_cons (ss_set (i := 4) sc__law_sum.nd rfl (.inl rfl) (se_call ((kn__law_gcd T).dn (n1 := 2) (ks := []) (idx := [0, 1]) ⟨rfl, rfl, rfl, rfl, rfl⟩ hB hr (by decide) hgd (by rfl) (takes_of rfl rfl rfl rfl) (by decide) (fun _ _ _ _ _ _ us ws h1 h2 => match us, ws, h1, h2 with | [_, _], [], _, _ => rfl)) (sa_cons (se_name 2) (sa_cons (se_name 3) sa_nil))))
    (ss_one (ss_ret (se_tup (sa_cons (se_O hB.symm op_fdivD (se_name 2) (se_name 4)) (sa_cons (se_O hB.symm op_fdivD (se_name 3) (se_name 4)) sa_nil)))))))
theorem kn__law_far (T : Txt K mg) : Kn P w K mg base "_law_far" "_law_far" s__law_far 3 false ["width", "steps"] F__law_far := .of (g := g__law_far) T.a__law_far sc__law_far rfl fun f cdv A outer s H E hr hgd B hB =>
    (ss_cons (ss_setLc (i := 3) rfl sc__law_far.nd rfl rfl (by rfl) (si_rng1 (by rfl) T.z_range (se_name 0)) (blkOk_by (own := [("slot", 2)]) (by rfl)) (fun _ _ _ _ _ B1 h1 => (sg_name sc__law_far.nd (i := 2) rfl (by first | exact .inl rfl | exact .inr rfl))) (fun _ _ _ _ _ B1 h1 => sts_nil) (fun _ _ _ _ _ B1 h1 => (se_new (sn_lc rfl sc__law_far.nd (si_rng1 (by rfl) T.z_range (se_name 0)) (blkOk_by (own := [("at", 9)]) (by rfl)) (fun _ _ _ _ _ B2 h2 => (sg_name sc__law_far.nd (i := 9) rfl (by first | exact .inl rfl | exact .inr rfl))) (fun _ _ _ _ _ B2 h2 => sts_nil) (fun _ _ _ _ _ B2 h2 => (se_tup (sa_cons (se_T (h2.trans (h1.trans hB)).symm c_int bt_int T.z_int (sa_cons (se_C (h2.trans (h1.trans hB)).symm (op_eqDD hr.units) (se_name 9) (se_name 2)) sa_nil)) (sa_cons se_int sa_nil)))) (by decide)))) (by decide))
    (ss_cons (ss_for (passes_of rfl) rfl (si_seq hB.symm (se_name 1)) (sg_tup rfl hB.symm (sgs_cons (sg_name sc__law_far.nd (i := 4) rfl (.inl rfl)) (sgs_cons (sg_name sc__law_far.nd (i := 5) rfl (.inl rfl)) (sgs_cons (sg_name sc__law_far.nd (i := 6) rfl (.inl rfl)) (sgs_cons (sg_name sc__law_far.nd (i := 7) rfl (.inr rfl)) sgs_nil)))))
    (ss_one (ss_for (passes_of rfl) rfl (si_seq hB.symm (se_name 5)) (sg_tup rfl hB.symm (sgs_cons (sg_name sc__law_far.nd (i := 2) rfl (.inl rfl)) (sgs_cons (sg_name sc__law_far.nd (i := 8) rfl (.inr rfl)) sgs_nil)))
    (ss_one (ss_setIx 3 hB.symm (se_name 4) (se_new (sn_lc rfl sc__law_far.nd (si_zip hB.symm (by rfl) T.z_zip (se_ixOwn 3 hB.symm (se_name 4)) (se_ixOwn 3 hB.symm (se_name 2))) (blkOk_by (own := [("here", 11), ("there", 12)]) (by rfl)) (fun _ _ _ _ _ B1 h1 => (sg_tup rfl (h1.trans hB).symm (sgs_cons (sg_name sc__law_far.nd (i := 11) rfl (by first | exact .inl rfl | exact .inr rfl)) (sgs_cons (sg_name sc__law_far.nd (i := 12) rfl (by first | exact .inl rfl | exact .inr rfl)) sgs_nil)))) (fun _ _ _ _ _ B1 h1 => sts_nil) (fun _ _ _ _ _ B1 h1 => (se_call ((kn__law_sum T).dn (n1 := 2) (ks := []) (idx := [0, 1]) ⟨rfl, rfl, rfl, rfl, rfl⟩ (h1.trans hB) hr (by decide) hgd (by rfl) takes0 (by decide) (fun _ _ _ _ _ _ us ws h1 h2 => match us, ws, h1, h2 with | [_, _], [], _, _ => rfl)) (sa_cons (se_name 11) (sa_cons (se_tup (sa_cons (se_O (h1.trans hB).symm op_mulD (se_name 8) (se_ix (h1.trans hB).symm (se_name 12) se_int)) (sa_cons (se_O (h1.trans hB).symm op_mulD (se_ix (h1.trans hB).symm (se_name 12) se_int) (se_name 7)) sa_nil))) sa_nil)))) (by decide))))))))
    (ss_one (ss_ret (se_T hB.symm c_tuple bt_tuple T.z_tuple (sa_cons (se_new (sn_lc rfl sc__law_far.nd (si_seq hB.symm (se_name 3)) (blkOk_by (own := [("row", 10)]) (by rfl)) (fun _ _ _ _ _ B1 h1 => (sg_name sc__law_far.nd (i := 10) rfl (by first | exact .inl rfl | exact .inr rfl))) (fun _ _ _ _ _ B1 h1 => sts_nil) (fun _ _ _ _ _ B1 h1 => (se_T (h1.trans hB).symm c_tuple bt_tuple T.z_tuple (sa_cons (se_name 10) sa_nil))) (by decide))) sa_nil))))))
theorem kn__law_number (T : Txt K mg) : Kn P w K mg base "_law_number" "_law_number" s__law_number 3 true ["pen"] F__law_number := .of (g := g__law_number) T.a__law_number sc__law_number rfl fun f cdv A outer s H E hr hgd B hB =>
    (ss_cons (ss_set (i := 1) sc__law_number.nd rfl (.inl rfl) (se_callIo 0 ((kn__law_draw T).dnIo ⟨rfl, rfl, rfl, rfl, rfl⟩ hB hr (by decide) hgd (by rfl) (takes_of rfl rfl rfl rfl) (by decide) (fun _ _ _ _ _ _ us ws h1 h2 => match us, ws, h1, h2 with | [_, _], [], _, _ => rfl)) (sa_cons se_int sa_nil)))
    (ss_cons (ss_if (st_C hB.symm (op_eqDD hr.units) (se_name 1) se_int)
    (ss_one (ss_ret (se_O hB.symm op_mulD (se_callIo 0 ((kn__law_pick T).dnIo ⟨rfl, rfl, rfl, rfl, rfl⟩ hB hr (by decide) hgd (by rfl) (takes_of rfl rfl rfl rfl) (by decide) (fun _ _ _ _ _ _ us ws h1 h2 => match us, ws, h1, h2 with | [_, _], [], _, _ => rfl)) (sa_cons (se_lst (sa_cons se_int (sa_cons (se_neg hB.symm se_int) sa_nil))) sa_nil)) (se_O hB.symm op_addD (se_O hB.symm op_powD se_int se_int) (se_callIo 0 ((kn__law_draw T).dnIo ⟨rfl, rfl, rfl, rfl, rfl⟩ hB hr (by decide) hgd (by rfl) (takes_of rfl rfl rfl rfl) (by decide) (fun _ _ _ _ _ _ us ws h1 h2 => match us, ws, h1, h2 with | [_, _], [], _, _ => rfl)) (sa_cons (se_O hB.symm op_powD se_int se_int) sa_nil))))))
    ss_nil)
    (ss_one (ss_ret (se_if (st_C hB.symm op_ltD (se_name 1) se_int) (se_O hB.symm op_subD (se_callIo 0 ((kn__law_draw T).dnIo ⟨rfl, rfl, rfl, rfl, rfl⟩ hB hr (by decide) hgd (by rfl) (takes_of rfl rfl rfl rfl) (by decide) (fun _ _ _ _ _ _ us ws h1 h2 => match us, ws, h1, h2 with | [_, _], [], _, _ => rfl)) (sa_cons se_int sa_nil)) se_int) (se_O hB.symm op_subD (se_callIo 0 ((kn__law_draw T).dnIo ⟨rfl, rfl, rfl, rfl, rfl⟩ hB hr (by decide) hgd (by rfl) (takes_of rfl rfl rfl rfl) (by decide) (fun _ _ _ _ _ _ us ws h1 h2 => match us, ws, h1, h2 with | [_, _], [], _, _ => rfl)) (sa_cons se_int sa_nil)) se_int))))))
theorem kn__law_block (T : Txt K mg) : Kn P w K mg base "_law_block" "_law_block" s__law_block 4 true ["pen", "width"] F__law_block := .of (g := g__law_block) T.a__law_block sc__law_block rfl fun f cdv A outer s H E hr hgd B hB =>
    (ss_one (ss_ret (se_T hB.symm c_tuple bt_tuple T.z_tuple (sa_cons (se_new (sn_lc rfl sc__law_block.nd (si_rng1 (by rfl) T.z_range (se_name 1)) (blkOk_by (own := [("slot", 2)]) (by rfl)) (fun _ _ _ _ _ B1 h1 => (sg_name sc__law_block.nd (i := 2) rfl (by first | exact .inl rfl | exact .inr rfl))) (fun _ _ _ _ _ B1 h1 => sts_nil) (fun _ _ _ _ _ B1 h1 => (se_callIo 0 ((kn__law_number T).dnIo ⟨rfl, rfl, rfl, rfl, rfl⟩ (h1.trans hB) hr (by decide) hgd (by rfl) takes0 (by decide) (fun _ _ _ _ _ _ us ws h1 h2 => match us, ws, h1, h2 with | [_], [], _, _ => rfl)) sa_nil)) (by decide))) sa_nil))))
theorem kn_is_block (T : Txt K mg) : Kn P w K mg base "is_block" "is_block" s_is_block 5 false ["value", "width"] F_is_block := .of (g := g_is_block) T.a_is_block sc_is_block rfl fun f cdv A outer s H E hr hgd B hB =>
    (ss_cons (ss_expr (se_call ((kn_need_width T).dn (n1 := 1) (ks := []) (idx := [0]) ⟨rfl, rfl, rfl, rfl, rfl⟩ hB hr (by decide) hgd (by rfl) (takes_of rfl rfl rfl rfl) (by decide) (fun _ _ _ _ _ _ us ws h1 h2 => match us, ws, h1, h2 with | [_], [], _, _ => rfl)) (sa_cons (se_name 1) sa_nil)))
    (ss_cons (ss_if (SW.st (sw_or (st_not (st_val (se_B hB.symm c_isi bt_isinstance T.z_isinstance (sa_cons (se_name 0) (sa_cons (se_tup (sa_cons (se_bltn (n := "list") (by rfl) T.z_list bt_list) (sa_cons (se_bltn (n := "tuple") (by rfl) T.z_tuple bt_tuple) sa_nil))) sa_nil))))) (sw_or1 (st_C hB.symm (op_neDD hr.units) (se_B hB.symm c_len bt_len T.z_len (sa_cons (se_name 0) sa_nil)) (se_name 1)))))
    (ss_one (ss_ret se_bl))
    ss_nil)
    (ss_one (ss_ret (se_B hB.symm (c_all rfl) bt_all T.z_all (sa_cons (se_new (sn_lc rfl sc_is_block.nd (si_seq hB.symm (se_name 0)) (blkOk_by (own := [("number", 2)]) (by rfl)) (fun _ _ _ _ _ B1 h1 => (sg_name sc_is_block.nd (i := 2) rfl (by first | exact .inl rfl | exact .inr rfl))) (fun _ _ _ _ _ B1 h1 => sts_nil) (fun _ _ _ _ _ B1 h1 => (se_call ((kn_is_integer T).dn (n1 := 1) (ks := []) (idx := [0]) ⟨rfl, rfl, rfl, rfl, rfl⟩ (h1.trans hB) hr (by decide) hgd (by rfl) takes0 (by decide) (fun _ _ _ _ _ _ us ws h1 h2 => match us, ws, h1, h2 with | [_], [], _, _ => rfl)) (sa_cons (se_name 2) sa_nil))) (by decide))) sa_nil))))))
theorem kn_need_block (T : Txt K mg) : Kn P w K mg base "need_block" "need_block" s_need_block 6 false ["value", "width"] F_need_block := .of (g := g_need_block) T.a_need_block sc_need_block rfl fun f cdv A outer s H E hr hgd B hB =>
    (ss_cons (ss_if (st_not (st_val (se_call ((kn_is_block T).dn (n1 := 2) (ks := []) (idx := [0, 1]) ⟨rfl, rfl, rfl, rfl, rfl⟩ hB hr (by decide) hgd (by rfl) (takes_of rfl rfl rfl rfl) (by decide) (fun _ _ _ _ _ _ us ws h1 h2 => match us, ws, h1, h2 with | [_, _], [], _, _ => rfl)) (sa_cons (se_name 0) (sa_cons (se_name 1) sa_nil)))))
    (ss_one ss_never)
    ss_nil)
    (ss_one (ss_ret (se_T hB.symm c_tuple bt_tuple T.z_tuple (sa_cons (se_name 0) sa_nil)))))
theorem kn_share (T : Txt K mg) : Kn P w K mg base "share" "share" s_share 1 false ["step", "block"] F_share := .of (g := g_share) T.a_share sc_share rfl fun f cdv A outer s H E hr hgd B hB =>
    (ss_cons (ss_asg (se_name 0) (sg_tup rfl hB.symm (sgs_cons (sg_name sc_share.nd (i := 2) rfl (.inl rfl)) (sgs_cons (sg_name sc_share.nd (i := 3) rfl (.inl rfl)) (sgs_cons (sg_name sc_share.nd (i := 4) rfl (.inl rfl)) (sgs_cons (sg_name sc_share.nd (i := 5) rfl (.inl rfl)) sgs_nil))))))
    (ss_one (ss_ret (se_O hB.symm op_fdivD (se_O hB.symm op_addD (se_B hB.symm (c_sum rfl) bt_sum T.z_sum (sa_cons (se_new (sn_lc rfl sc_share.nd (si_seq hB.symm (se_name 3)) (blkOk_by (own := [("slot", 6), ("times", 7)]) (by rfl)) (fun _ _ _ _ _ B1 h1 => (sg_tup rfl (h1.trans hB).symm (sgs_cons (sg_name sc_share.nd (i := 6) rfl (by first | exact .inl rfl | exact .inr rfl)) (sgs_cons (sg_name sc_share.nd (i := 7) rfl (by first | exact .inl rfl | exact .inr rfl)) sgs_nil)))) (fun _ _ _ _ _ B1 h1 => sts_nil) (fun _ _ _ _ _ B1 h1 => (se_O (h1.trans hB).symm op_mulD (se_name 7) (se_ix (h1.trans hB).symm (se_name 1) (se_name 6)))) (by decide))) sa_nil)) (se_name 4)) (se_name 5)))))
theorem kn_Lift_forth (T : Txt K mg) : MKn P w K mg base "Lift" "forth" "Lift.forth" s_Lift_forth 7 false ["self", "block"] F_Lift_forth := .of (g := g_Lift_forth) T.a_Lift_forth sc_Lift_forth rfl fun f cdv A outer s H E hr hgd B hB =>
    (ss_cons (ss_setN (i := 2) sc_Lift_forth.nd rfl (.inl rfl) (sn_T hB.symm c_list bt_list T.z_list (sa_cons (se_call ((kn_need_block T).dn (n1 := 2) (ks := []) (idx := [0, 1]) ⟨rfl, rfl, rfl, rfl, rfl⟩ hB hr (by decide) hgd (by rfl) (takes_of rfl rfl rfl rfl) (by decide) (fun _ _ _ _ _ _ us ws h1 h2 => match us, ws, h1, h2 with | [_, _], [], _, _ => rfl)) (sa_cons (se_name 1) (sa_cons (se_fld hB.symm (fun n hn => by rw [List.mem_singleton.mp hn, hB]; exact T.at_Lift_width) (se_name 0)) sa_nil))) sa_nil)))
    (ss_cons (ss_for (passes_of rfl) rfl (si_seq hB.symm (se_fld hB.symm (fun n hn => by rw [List.mem_singleton.mp hn, hB]; exact T.at_Lift_steps) (se_name 0))) (sg_name sc_Lift_forth.nd (i := 3) rfl (.inl rfl))
    (ss_one (ss_augIx 2 hB.symm ip_addD (se_ix hB.symm (se_name 3) se_int) (se_callL (L := [2]) ((kn_share T).dnL ⟨rfl, rfl, rfl, rfl, rfl⟩ hB hr (by decide) hgd (by rfl) (takes_of rfl rfl rfl rfl) (by decide) (fun _ _ _ _ _ _ us ws h1 h2 => match us, ws, h1, h2 with | [_, _], [], _, _ => rfl)) (sl_name 3 (sl_lend 2 (by decide) sl_nil))))))
    (ss_one (ss_ret (se_T hB.symm c_tuple bt_tuple T.z_tuple (sa_cons (se_name 2) sa_nil))))))
theorem kn__law_led (T : Txt K mg) : Kn P w K mg base "_law_led" "_law_led" s__law_led 3 false ["matrix", "block"] F__law_led := .of (g := g__law_led) T.a__law_led sc__law_led rfl fun f cdv A outer s H E hr hgd B hB =>
    (ss_cons (ss_setN (i := 2) sc__law_led.nd rfl (.inl rfl) (sn_lst sa_nil))
    (ss_cons (ss_for (passes_of rfl) rfl (si_seq hB.symm (se_name 0)) (sg_name sc__law_led.nd (i := 3) rfl (.inl rfl))
    (ss_cons (ss_set (i := 4) sc__law_led.nd rfl (.inl rfl) (se_tup (sa_cons se_int (sa_cons se_int sa_nil))))
    (ss_cons (ss_for (passes_of rfl) rfl (si_zip hB.symm (by rfl) T.z_zip (se_name 3) (se_name 1)) (sg_tup rfl hB.symm (sgs_cons (sg_name sc__law_led.nd (i := 5) rfl (.inl rfl)) (sgs_cons (sg_name sc__law_led.nd (i := 6) rfl (.inl rfl)) sgs_nil)))
    (ss_one (ss_set (i := 4) sc__law_led.nd rfl (.inl rfl) (se_call ((kn__law_sum T).dn (n1 := 2) (ks := []) (idx := [0, 1]) ⟨rfl, rfl, rfl, rfl, rfl⟩ hB hr (by decide) hgd (by rfl) (takes_of rfl rfl rfl rfl) (by decide) (fun _ _ _ _ _ _ us ws h1 h2 => match us, ws, h1, h2 with | [_, _], [], _, _ => rfl)) (sa_cons (se_name 4) (sa_cons (se_tup (sa_cons (se_O hB.symm op_mulD (se_ix hB.symm (se_name 5) se_int) (se_name 6)) (sa_cons (se_ix hB.symm (se_name 5) se_int) sa_nil))) sa_nil))))))
    (ss_one (ss_app 2 hB.symm (ps_expr (pe_bm PySem.F.plainAttrs_list PySem.F.slot_list_append PySem.F.type_list_append mt_append (pv 2) (pa_cons (se_name 4) pa_nil))))))))
    (ss_one (ss_retV 2))))
theorem kn__law_shifts_right (T : Txt K mg) : Kn P w K mg base "_law_shifts_right" "_law_shifts_right" s__law_shifts_right 8 true ["pen", "width", "steps", "lift"] F__law_shifts_right := .of (g := g__law_shifts_right) T.a__law_shifts_right sc__law_shifts_right rfl fun f cdv A outer s H E hr hgd B hB =>
    (ss_cons (ss_set (i := 4) sc__law_shifts_right.nd rfl (.inr rfl) se_int)
    (ss_cons (ss_for (passes_of rfl) rfl (si_seq hB.symm (se_name 2)) (sg_name sc__law_shifts_right.nd (i := 5) rfl (.inl rfl))
    (ss_one (ss_set (i := 4) sc__law_shifts_right.nd rfl (.inr rfl) (se_O hB.symm op_mulD (se_name 4) (se_ix hB.symm (se_name 5) se_int)))))
    (ss_cons (ss_for (passes_of rfl) rfl (si_rng1 (by rfl) T.z_range se_int) (sg_name sc__law_shifts_right.nd (i := 6) rfl (.inl rfl))
    (ss_cons (ss_set (i := 7) sc__law_shifts_right.nd rfl (.inl rfl) (se_callIo 0 ((kn__law_block T).dnIo ⟨rfl, rfl, rfl, rfl, rfl⟩ hB hr (by decide) hgd (by rfl) (takes_of rfl rfl rfl rfl) (by decide) (fun _ _ _ _ _ _ us ws h1 h2 => match us, ws, h1, h2 with | [_, _], [], _, _ => rfl)) (sa_cons (se_name 1) sa_nil)))
    (ss_cons (ss_set (i := 8) sc__law_shifts_right.nd rfl (.inl rfl) (se_T hB.symm c_tuple bt_tuple T.z_tuple (sa_cons (se_new (sn_lc rfl sc__law_shifts_right.nd (si_rng1 (by rfl) T.z_range (se_name 1)) (blkOk_by (own := [("slot", 11)]) (by rfl)) (fun _ _ _ _ _ B1 h1 => (sg_name sc__law_shifts_right.nd (i := 11) rfl (by first | exact .inl rfl | exact .inr rfl))) (fun _ _ _ _ _ B1 h1 => sts_nil) (fun _ _ _ _ _ B1 h1 => (se_O (h1.trans hB).symm op_mulD (se_name 4) (se_callIo 0 ((kn__law_pick T).dnIo ⟨rfl, rfl, rfl, rfl, rfl⟩ (h1.trans hB) hr (by decide) hgd (by rfl) takes0 (by decide) (fun _ _ _ _ _ _ us ws h1 h2 => match us, ws, h1, h2 with | [_, _], [], _, _ => rfl)) (sa_cons (se_lst (sa_cons se_int (sa_cons se_int (sa_cons (se_neg (h1.trans hB).symm se_int) (sa_cons (se_callIo 0 ((kn__law_draw T).dnIo ⟨rfl, rfl, rfl, rfl, rfl⟩ (h1.trans hB) hr (by decide) hgd (by rfl) takes0 (by decide) (fun _ _ _ _ _ _ us ws h1 h2 => match us, ws, h1, h2 with | [_, _], [], _, _ => rfl)) (sa_cons (se_O (h1.trans hB).symm op_powD se_int se_int) sa_nil)) sa_nil))))) sa_nil)))) (by decide))) sa_nil)))
    (ss_cons (ss_set (i := 9) sc__law_shifts_right.nd rfl (.inl rfl) (se_methK ((kn_Lift_forth T).dn (n1 := 2) (ks := []) (idx := [0, 1]) ⟨rfl, rfl, rfl, rfl, rfl⟩ hB hr (by decide) hgd (takes_of rfl rfl rfl rfl) (by decide) (fun _ _ _ _ _ _ us ws h1 h2 => match us, ws, h1, h2 with | [_, _], [], _, _ => rfl)) (se_name 3) (sa_cons (se_new (sn_lc rfl sc__law_shifts_right.nd (si_zip hB.symm (by rfl) T.z_zip (se_name 7) (se_name 8)) (blkOk_by (own := [("one", 12), ("other", 13)]) (by rfl)) (fun _ _ _ _ _ B1 h1 => (sg_tup rfl (h1.trans hB).symm (sgs_cons (sg_name sc__law_shifts_right.nd (i := 12) rfl (by first | exact .inl rfl | exact .inr rfl)) (sgs_cons (sg_name sc__law_shifts_right.nd (i := 13) rfl (by first | exact .inl rfl | exact .inr rfl)) sgs_nil)))) (fun _ _ _ _ _ B1 h1 => sts_nil) (fun _ _ _ _ _ B1 h1 => (se_O (h1.trans hB).symm op_addD (se_name 12) (se_name 13))) (by decide))) sa_nil) sk_nil))
    (ss_cons (ss_set (i := 10) sc__law_shifts_right.nd rfl (.inl rfl) (se_call ((kn__law_led T).dn (n1 := 2) (ks := []) (idx := [0, 1]) ⟨rfl, rfl, rfl, rfl, rfl⟩ hB hr (by decide) hgd (by rfl) (takes_of rfl rfl rfl rfl) (by decide) (fun _ _ _ _ _ _ us ws h1 h2 => match us, ws, h1, h2 with | [_, _], [], _, _ => rfl)) (sa_cons (se_methK0 ((kn_Lift_far T).dn (n1 := 1) (ks := []) (idx := [0]) ⟨rfl, rfl, rfl, rfl, rfl⟩ hB hr (by decide) hgd (takes_of rfl rfl rfl rfl) (by decide) (fun _ _ _ _ _ _ us ws h1 h2 => match us, ws, h1, h2 with | [_], [], _, _ => rfl)) (se_name 3) sk_nil) (sa_cons (se_name 8) sa_nil))))
    (ss_one (ss_if (st_C hB.symm (op_neDD hr.units) (se_new (sn_lc rfl sc__law_shifts_right.nd (si_zip hB.symm (by rfl) T.z_zip (se_name 9) (se_methK ((kn_Lift_forth T).dn (n1 := 2) (ks := []) (idx := [0, 1]) ⟨rfl, rfl, rfl, rfl, rfl⟩ hB hr (by decide) hgd (takes_of rfl rfl rfl rfl) (by decide) (fun _ _ _ _ _ _ us ws h1 h2 => match us, ws, h1, h2 with | [_, _], [], _, _ => rfl)) (se_name 3) (sa_cons (se_name 7) sa_nil) sk_nil)) (blkOk_by (own := [("one", 12), ("other", 13)]) (by rfl)) (fun _ _ _ _ _ B1 h1 => (sg_tup rfl (h1.trans hB).symm (sgs_cons (sg_name sc__law_shifts_right.nd (i := 12) rfl (by first | exact .inl rfl | exact .inr rfl)) (sgs_cons (sg_name sc__law_shifts_right.nd (i := 13) rfl (by first | exact .inl rfl | exact .inr rfl)) sgs_nil)))) (fun _ _ _ _ _ B1 h1 => sts_nil) (fun _ _ _ _ _ B1 h1 => (se_tup (sa_cons (se_O (h1.trans hB).symm op_subD (se_name 12) (se_name 13)) (sa_cons se_int sa_nil)))) (by decide))) (se_name 10))
    (ss_one (ss_ret se_bl))
    ss_nil)))))))
    (ss_one (ss_ret se_bl)))))
theorem kn_raw_lift (T : Txt K mg) : Kn P w K mg base "raw_lift" "raw_lift" s_raw_lift 11 false ["width", "steps"] F_raw_lift := .of (g := g_raw_lift) T.a_raw_lift sc_raw_lift rfl fun f cdv A outer s H E hr hgd B hB =>
    (ss_cons (ss_setMk (i := 2) ((kn_Lift___init__ T).dn ⟨rfl, rfl, rfl, rfl, rfl⟩ hB hr (by decide) hgd (by rfl) (takes_of rfl rfl rfl rfl) (by decide) (fun _ _ _ _ _ _ us ws h1 h2 => match us, ws, h1, h2 with | [_, _, _], [], _, _ => rfl)) (sa_cons (se_name 0) (sa_cons (se_tup sa_nil) sa_nil)) sc_raw_lift.nd rfl (.inl rfl) (spos := _))
    (ss_cons (ss_fld 2 hB.symm (fun n hn => by rw [List.mem_singleton.mp hn, hB]; exact T.at_Lift_steps) (se_T hB.symm c_tuple bt_tuple T.z_tuple (sa_cons (se_name 1) sa_nil)))
    (ss_one (ss_ret (se_name 2)))))
theorem kn_turned_step (T : Txt K mg) : Kn P w K mg base "turned_step" "turned_step" s_turned_step 1 false ["step"] F_turned_step := .of (g := g_turned_step) T.a_turned_step sc_turned_step rfl fun f cdv A outer s H E hr hgd B hB =>
    (ss_cons (ss_asg (se_name 0) (sg_tup rfl hB.symm (sgs_cons (sg_name sc_turned_step.nd (i := 1) rfl (.inl rfl)) (sgs_cons (sg_name sc_turned_step.nd (i := 2) rfl (.inl rfl)) (sgs_cons (sg_name sc_turned_step.nd (i := 3) rfl (.inl rfl)) (sgs_cons (sg_name sc_turned_step.nd (i := 4) rfl (.inl rfl)) sgs_nil))))))
    (ss_one (ss_ret (se_tup (sa_cons (se_name 1) (sa_cons (se_T hB.symm c_tuple bt_tuple T.z_tuple (sa_cons (se_new (sn_lc rfl sc_turned_step.nd (si_seq hB.symm (se_name 2)) (blkOk_by (own := [("slot", 5), ("times", 6)]) (by rfl)) (fun _ _ _ _ _ B1 h1 => (sg_tup rfl (h1.trans hB).symm (sgs_cons (sg_name sc_turned_step.nd (i := 5) rfl (by first | exact .inl rfl | exact .inr rfl)) (sgs_cons (sg_name sc_turned_step.nd (i := 6) rfl (by first | exact .inl rfl | exact .inr rfl)) sgs_nil)))) (fun _ _ _ _ _ B1 h1 => sts_nil) (fun _ _ _ _ _ B1 h1 => (se_tup (sa_cons (se_name 5) (sa_cons (se_neg (h1.trans hB).symm (se_name 6)) sa_nil)))) (by decide))) sa_nil)) (sa_cons (se_O hB.symm op_subD (se_O hB.symm op_subD (se_name 4) se_int) (se_name 3)) (sa_cons (se_name 4) sa_nil))))))))
theorem kn_Lift_undone (T : Txt K mg) : MKn P w K mg base "Lift" "undone" "Lift.undone" s_Lift_undone 12 false ["self"] F_Lift_undone := .of (g := g_Lift_undone) T.a_Lift_undone sc_Lift_undone rfl fun f cdv A outer s H E hr hgd B hB =>
    (ss_one (ss_ret (se_call ((kn_raw_lift T).dn (n1 := 2) (ks := []) (idx := [0, 1]) ⟨rfl, rfl, rfl, rfl, rfl⟩ hB hr (by decide) hgd (by rfl) (takes_of rfl rfl rfl rfl) (by decide) (fun _ _ _ _ _ _ us ws h1 h2 => match us, ws, h1, h2 with | [_, _], [], _, _ => rfl)) (sa_cons (se_fld hB.symm (fun n hn => by rw [List.mem_singleton.mp hn, hB]; exact T.at_Lift_width) (se_name 0)) (sa_cons (se_new (sn_lc rfl sc_Lift_undone.nd (si_seq hB.symm (se_revT hB.symm (se_fld hB.symm (fun n hn => by rw [List.mem_singleton.mp hn, hB]; exact T.at_Lift_steps) (se_name 0)))) (blkOk_by (own := [("step", 1)]) (by rfl)) (fun _ _ _ _ _ B1 h1 => (sg_name sc_Lift_undone.nd (i := 1) rfl (by first | exact .inl rfl | exact .inr rfl))) (fun _ _ _ _ _ B1 h1 => sts_nil) (fun _ _ _ _ _ B1 h1 => (se_call ((kn_turned_step T).dn (n1 := 1) (ks := []) (idx := [0]) ⟨rfl, rfl, rfl, rfl, rfl⟩ (h1.trans hB) hr (by decide) hgd (by rfl) takes0 (by decide) (fun _ _ _ _ _ _ us ws h1 h2 => match us, ws, h1, h2 with | [_], [], _, _ => rfl)) (sa_cons (se_name 1) sa_nil))) (by decide))) sa_nil)))))
theorem kn_law (T : Txt K mg) : Kn P w K mg base "law" "law" s_law 13 false ["script"] F_law := .of (g := g_law) T.a_law sc_law rfl fun f cdv A outer s H E hr hgd B hB =>
    (ss_cons (ss_setN (i := 1) sc_law.nd rfl (.inl rfl) (sn_call ((kn__law_pen T).dn (n1 := 1) (ks := []) (idx := [0]) ⟨rfl, rfl, rfl, rfl, rfl⟩ hB hr (by decide) hgd (by rfl) (takes_of rfl rfl rfl rfl) (by decide) (fun _ _ _ _ _ _ us ws h1 h2 => match us, ws, h1, h2 with | [_], [], _, _ => rfl)) (sa_cons (se_name 0) sa_nil)))
    (ss_cons (ss_for (passes_of rfl) rfl (si_rng1 (by rfl) T.z_range se_int) (sg_name sc_law.nd (i := 2) rfl (.inl rfl))
    (ss_cons (ss_set (i := 3) sc_law.nd rfl (.inl rfl) (se_callIo 1 ((kn__law_pick T).dnIo ⟨rfl, rfl, rfl, rfl, rfl⟩ hB hr (by decide) hgd (by rfl) (takes_of rfl rfl rfl rfl) (by decide) (fun _ _ _ _ _ _ us ws h1 h2 => match us, ws, h1, h2 with | [_, _], [], _, _ => rfl)) (sa_cons (se_lst (sa_cons se_int (sa_cons se_int (sa_cons se_int (sa_cons se_int (sa_cons se_int (sa_cons se_int sa_nil))))))) sa_nil)))
    (ss_cons (ss_set (i := 4) sc_law.nd rfl (.inl rfl) (se_callIo 1 ((kn__law_steps T).dnIo ⟨rfl, rfl, rfl, rfl, rfl⟩ hB hr (by decide) hgd (by rfl) (takes_of rfl rfl rfl rfl) (by decide) (fun _ _ _ _ _ _ us ws h1 h2 => match us, ws, h1, h2 with | [_, _, _], [], _, _ => rfl)) (sa_cons (se_name 3) (sa_cons (se_if (st_C hB.symm (op_eqDD hr.units) (se_name 2) se_int) se_int se_int) sa_nil))))
    (ss_cons (ss_set (i := 5) sc_law.nd rfl (.inr rfl) (se_make ((kn_Lift___init__ T).dn ⟨rfl, rfl, rfl, rfl, rfl⟩ hB hr (by decide) hgd (by rfl) (takes_of rfl rfl rfl rfl) (by decide) (fun _ _ _ _ _ _ us ws h1 h2 => match us, ws, h1, h2 with | [_, _, _], [], _, _ => rfl)) (sa_cons (se_name 3) (sa_cons (se_name 4) sa_nil))))
    (ss_cons (ss_if (SW.st (sw_or (st_C hB.symm (op_neDD hr.units) (se_B hB.symm (c_repr hgd hr.units) bt_repr T.z_repr (sa_cons (se_methK0 ((kn_Lift_far T).dn (n1 := 1) (ks := []) (idx := [0]) ⟨rfl, rfl, rfl, rfl, rfl⟩ hB hr (by decide) hgd (takes_of rfl rfl rfl rfl) (by decide) (fun _ _ _ _ _ _ us ws h1 h2 => match us, ws, h1, h2 with | [_], [], _, _ => rfl)) (se_name 5) sk_nil) sa_nil)) (se_B hB.symm (c_repr hgd hr.units) bt_repr T.z_repr (sa_cons (se_call ((kn__law_far T).dn (n1 := 2) (ks := []) (idx := [0, 1]) ⟨rfl, rfl, rfl, rfl, rfl⟩ hB hr (by decide) hgd (by rfl) (takes_of rfl rfl rfl rfl) (by decide) (fun _ _ _ _ _ _ us ws h1 h2 => match us, ws, h1, h2 with | [_, _], [], _, _ => rfl)) (sa_cons (se_name 3) (sa_cons (se_name 4) sa_nil))) sa_nil))) (sw_or1 (st_not (st_val (se_callIo 1 ((kn__law_shifts_right T).dnIo ⟨rfl, rfl, rfl, rfl, rfl⟩ hB hr (by decide) hgd (by rfl) (takes_of rfl rfl rfl rfl) (by decide) (fun _ _ _ _ _ _ us ws h1 h2 => match us, ws, h1, h2 with | [_, _, _, _], [], _, _ => rfl)) (sa_cons (se_name 3) (sa_cons (se_name 4) (sa_cons (se_name 5) sa_nil)))))))))
    (ss_one (ss_ret se_bl))
    ss_nil)
    (ss_cons (ss_setLc (i := 7) rfl sc_law.nd rfl rfl (by rfl) (si_rng1 (by rfl) T.z_range (se_name 3)) (blkOk_by (own := [("at", 6)]) (by rfl)) (fun _ _ _ _ _ B1 h1 => (sg_name sc_law.nd (i := 6) rfl (by first | exact .inl rfl | exact .inr rfl))) (fun _ _ _ _ _ B1 h1 => sts_nil) (fun _ _ _ _ _ B1 h1 => by exact (se_new (sn_lc (own := [("row", 14)]) rfl sc_law.nd (si_seq (h1.trans hB).symm (se_methK0 ((kn_Lift_far T).dn (n1 := 1) (ks := []) (idx := [0]) ⟨rfl, rfl, rfl, rfl, rfl⟩ (h1.trans hB) hr (by decide) hgd takes0 (by decide) (fun _ _ _ _ _ _ us ws h1 h2 => match us, ws, h1, h2 with | [_], [], _, _ => rfl)) (se_name 5) sk_nil)) (blkOk_by (own := [("row", 14)]) (by rfl)) (fun _ _ _ _ _ B2 h2 => (sg_name sc_law.nd (i := 14) rfl (by first | exact .inl rfl | exact .inr rfl))) (fun _ _ _ _ _ B2 h2 => sts_nil) (fun _ _ _ _ _ B2 h2 => (se_ix (h2.trans (h1.trans hB)).symm (se_name 14) (se_name 6))) (by decide)))) (by decide))
    (ss_cons (ss_set (i := 8) sc_law.nd rfl (.inl rfl) (se_methK0 ((kn_Lift_far T).dn (n1 := 1) (ks := []) (idx := [0]) ⟨rfl, rfl, rfl, rfl, rfl⟩ hB hr (by decide) hgd (takes_of rfl rfl rfl rfl) (by decide) (fun _ _ _ _ _ _ us ws h1 h2 => match us, ws, h1, h2 with | [_], [], _, _ => rfl)) (se_methK0 ((kn_Lift_undone T).dn (n1 := 1) (ks := []) (idx := [0]) ⟨rfl, rfl, rfl, rfl, rfl⟩ hB hr (by decide) hgd (takes_of rfl rfl rfl rfl) (by decide) (fun _ _ _ _ _ _ us ws h1 h2 => match us, ws, h1, h2 with | [_], [], _, _ => rfl)) (se_name 5) sk_nil) sk_nil))
    (ss_one (ss_for (passes_of rfl) rfl (si_enum hB.symm (by rfl) T.z_enumerate (se_name 7)) (sg_tup rfl hB.symm (sgs_cons (sg_name sc_law.nd (i := 6) rfl (.inl rfl)) (sgs_cons (sg_name sc_law.nd (i := 9) rfl (.inl rfl)) sgs_nil)))
    (ss_one (ss_for (passes_of rfl) rfl (si_rng1 (by rfl) T.z_range (se_name 3)) (sg_name sc_law.nd (i := 10) rfl (.inl rfl))
    (ss_cons (ss_set (i := 11) sc_law.nd rfl (.inl rfl) (se_tup (sa_cons se_int (sa_cons se_int sa_nil))))
    (ss_cons (ss_for (passes_of rfl) rfl (si_zip hB.symm (by rfl) T.z_zip (se_ix hB.symm (se_name 8) (se_name 10)) (se_name 9)) (sg_tup rfl hB.symm (sgs_cons (sg_name sc_law.nd (i := 12) rfl (.inl rfl)) (sgs_cons (sg_name sc_law.nd (i := 13) rfl (.inl rfl)) sgs_nil)))
    (ss_one (ss_set (i := 11) sc_law.nd rfl (.inl rfl) (se_call ((kn__law_sum T).dn (n1 := 2) (ks := []) (idx := [0, 1]) ⟨rfl, rfl, rfl, rfl, rfl⟩ hB hr (by decide) hgd (by rfl) (takes_of rfl rfl rfl rfl) (by decide) (fun _ _ _ _ _ _ us ws h1 h2 => match us, ws, h1, h2 with | [_, _], [], _, _ => rfl)) (sa_cons (se_name 11) (sa_cons (se_tup (sa_cons (se_O hB.symm op_mulD (se_ix hB.symm (se_name 12) se_int) (se_ix hB.symm (se_name 13) se_int)) (sa_cons (se_O hB.symm op_mulD (se_ix hB.symm (se_name 12) se_int) (se_ix hB.symm (se_name 13) se_int)) sa_nil))) sa_nil))))))
    (ss_one (ss_if (st_C hB.symm (op_neDD hr.units) (se_name 11) (se_tup (sa_cons (se_T hB.symm c_int bt_int T.z_int (sa_cons (se_C hB.symm (op_eqDD hr.units) (se_name 10) (se_name 6)) sa_nil)) (sa_cons se_int sa_nil))))
    (ss_one (ss_ret se_bl))
    ss_nil)))))))))))))))
    (ss_one (ss_ret (se_C hB.symm (op_eqDD hr.units) (se_methK0 ((kn_Lift_far T).dn (n1 := 1) (ks := []) (idx := [0]) ⟨rfl, rfl, rfl, rfl, rfl⟩ hB hr (by decide) hgd (takes_of rfl rfl rfl rfl) (by decide) (fun _ _ _ _ _ _ us ws h1 h2 => match us, ws, h1, h2 with | [_], [], _, _ => rfl)) (se_make ((kn_Lift___init__ T).dn ⟨rfl, rfl, rfl, rfl, rfl⟩ hB hr (by decide) hgd (by rfl) (takes_of rfl rfl rfl rfl) (by decide) (fun _ _ _ _ _ _ us ws h1 h2 => match us, ws, h1, h2 with | [_, _, _], [], _, _ => rfl)) (sa_cons se_int (sa_cons (se_lst (sa_cons (se_tup (sa_cons se_int (sa_cons (se_lst (sa_cons (se_tup (sa_cons se_int (sa_cons (se_neg hB.symm se_int) sa_nil))) sa_nil)) (sa_cons se_int (sa_cons se_int sa_nil))))) (sa_cons (se_tup (sa_cons se_int (sa_cons (se_lst (sa_cons (se_tup (sa_cons se_int (sa_cons se_int sa_nil))) sa_nil)) (sa_cons se_int (sa_cons se_int sa_nil))))) sa_nil))) sa_nil))) sk_nil) (se_tup (sa_cons (se_tup (sa_cons (se_tup (sa_cons se_int (sa_cons se_int sa_nil))) (sa_cons (se_tup (sa_cons (se_neg hB.symm se_int) (sa_cons se_int sa_nil))) sa_nil))) (sa_cons (se_tup (sa_cons (se_tup (sa_cons se_int (sa_cons se_int sa_nil))) (sa_cons (se_tup (sa_cons se_int (sa_cons se_int sa_nil))) sa_nil))) sa_nil))))))))
end
/-! ### the head -/
theorem all_mk {l : PySem.W.OpenLaw} {w : World} {K : PySem.W.Frag} {h : Heap} {mg : Str → Option Value} {fa : Addr} (X : K.In h) (G : h.Ns mainGlobals mg) (hfa : mg "law" = some (.ref fa))
    {C0 : Addr} (x0 : PySem.W.nsIn K mainGlobals "Lift" = some (some (.ref C0))) (pg0 : PySem.W.plainGet K C0 Str.empty = true) (hd0 : PySem.W.hasDictIn K C0 = true) (po0 : PySem.W.plainOver K C0 = true) (sa0 : PySem.W.findIn K (.ref C0) "__setattr__" = some (some (.builtin "object.__setattr__")))
    (mk0 : PySem.W.makesIn K C0 = true) (kc0 : PySem.W.keepIn K (.ref C0) = true)
    {f0 : Addr} {od0 an0 : Option Addr} {sl0 : Array (Option Value)} {oc0 kV0 dc0 pm0 cd0 ct0 : Value}
    (a0 : PySem.W.nsIn K mainGlobals "_law_pen" = some (some (.ref f0))) (l0 : K.lookup f0 = some ⟨oc0, od0, .func (PySem.W.fnOf "_law_pen" "_law_pen" (defArgs s__law_pen) (defBody s__law_pen) (defScope s__law_pen) .none kV0 dc0 pm0 an0 cd0 ct0), sl0⟩) (c0 : PySem.W.codeIn K cd0 "_law_pen" = true) (k0 : PySem.W.keepIn K (.ref f0) = true)
    {f1 : Addr} {od1 an1 : Option Addr} {sl1 : Array (Option Value)} {oc1 kV1 dc1 pm1 cd1 ct1 : Value}
    (a1 : PySem.W.nsIn K mainGlobals "_law_draw" = some (some (.ref f1))) (l1 : K.lookup f1 = some ⟨oc1, od1, .func (PySem.W.fnOf "_law_draw" "_law_draw" (defArgs s__law_draw) (defBody s__law_draw) (defScope s__law_draw) .none kV1 dc1 pm1 an1 cd1 ct1), sl1⟩) (c1 : PySem.W.codeIn K cd1 "_law_draw" = true) (k1 : PySem.W.keepIn K (.ref f1) = true)
    {f2 : Addr} {od2 an2 : Option Addr} {sl2 : Array (Option Value)} {oc2 kV2 dc2 pm2 cd2 ct2 : Value}
    (a2 : PySem.W.nsIn K mainGlobals "_law_pick" = some (some (.ref f2))) (l2 : K.lookup f2 = some ⟨oc2, od2, .func (PySem.W.fnOf "_law_pick" "_law_pick" (defArgs s__law_pick) (defBody s__law_pick) (defScope s__law_pick) .none kV2 dc2 pm2 an2 cd2 ct2), sl2⟩) (c2 : PySem.W.codeIn K cd2 "_law_pick" = true) (k2 : PySem.W.keepIn K (.ref f2) = true)
    {f3 : Addr} {od3 an3 : Option Addr} {sl3 : Array (Option Value)} {oc3 kV3 dc3 pm3 cd3 ct3 : Value}
    (a3 : PySem.W.nsIn K mainGlobals "_law_step" = some (some (.ref f3))) (l3 : K.lookup f3 = some ⟨oc3, od3, .func (PySem.W.fnOf "_law_step" "_law_step" (defArgs s__law_step) (defBody s__law_step) (defScope s__law_step) .none kV3 dc3 pm3 an3 cd3 ct3), sl3⟩) (c3 : PySem.W.codeIn K cd3 "_law_step" = true) (k3 : PySem.W.keepIn K (.ref f3) = true)
    {f4 : Addr} {od4 an4 : Option Addr} {sl4 : Array (Option Value)} {oc4 kV4 dc4 pm4 cd4 ct4 : Value}
    (a4 : PySem.W.nsIn K mainGlobals "_law_steps" = some (some (.ref f4))) (l4 : K.lookup f4 = some ⟨oc4, od4, .func (PySem.W.fnOf "_law_steps" "_law_steps" (defArgs s__law_steps) (defBody s__law_steps) (defScope s__law_steps) .none kV4 dc4 pm4 an4 cd4 ct4), sl4⟩) (c4 : PySem.W.codeIn K cd4 "_law_steps" = true) (k4 : PySem.W.keepIn K (.ref f4) = true)
    {f5 : Addr} {od5 an5 : Option Addr} {sl5 : Array (Option Value)} {oc5 kV5 dc5 pm5 cd5 ct5 : Value}
    (a5 : PySem.W.nsIn K mainGlobals "is_integer" = some (some (.ref f5))) (l5 : K.lookup f5 = some ⟨oc5, od5, .func (PySem.W.fnOf "is_integer" "is_integer" (defArgs s_is_integer) (defBody s_is_integer) (defScope s_is_integer) .none kV5 dc5 pm5 an5 cd5 ct5), sl5⟩) (c5 : PySem.W.codeIn K cd5 "is_integer" = true) (k5 : PySem.W.keepIn K (.ref f5) = true)
    {f6 : Addr} {od6 an6 : Option Addr} {sl6 : Array (Option Value)} {oc6 kV6 dc6 pm6 cd6 ct6 : Value}
    (a6 : PySem.W.nsIn K mainGlobals "is_within" = some (some (.ref f6))) (l6 : K.lookup f6 = some ⟨oc6, od6, .func (PySem.W.fnOf "is_within" "is_within" (defArgs s_is_within) (defBody s_is_within) (defScope s_is_within) .none kV6 dc6 pm6 an6 cd6 ct6), sl6⟩) (c6 : PySem.W.codeIn K cd6 "is_within" = true) (k6 : PySem.W.keepIn K (.ref f6) = true)
    {f7 : Addr} {od7 an7 : Option Addr} {sl7 : Array (Option Value)} {oc7 kV7 dc7 pm7 cd7 ct7 : Value}
    (a7 : PySem.W.nsIn K mainGlobals "need_within" = some (some (.ref f7))) (l7 : K.lookup f7 = some ⟨oc7, od7, .func (PySem.W.fnOf "need_within" "need_within" (defArgs s_need_within) (defBody s_need_within) (defScope s_need_within) .none kV7 dc7 pm7 an7 cd7 ct7), sl7⟩) (c7 : PySem.W.codeIn K cd7 "need_within" = true) (k7 : PySem.W.keepIn K (.ref f7) = true)
    {f8 : Addr} {od8 an8 : Option Addr} {sl8 : Array (Option Value)} {oc8 kV8 dc8 pm8 cd8 ct8 : Value}
    (a8 : PySem.W.nsIn K mainGlobals "need_width" = some (some (.ref f8))) (l8 : K.lookup f8 = some ⟨oc8, od8, .func (PySem.W.fnOf "need_width" "need_width" (defArgs s_need_width) (defBody s_need_width) (defScope s_need_width) .none kV8 dc8 pm8 an8 cd8 ct8), sl8⟩) (c8 : PySem.W.codeIn K cd8 "need_width" = true) (k8 : PySem.W.keepIn K (.ref f8) = true)
    {f9 : Addr} {od9 an9 : Option Addr} {sl9 : Array (Option Value)} {oc9 kV9 dc9 pm9 cd9 ct9 : Value}
    (a9 : PySem.W.nsIn K mainGlobals "is_row" = some (some (.ref f9))) (l9 : K.lookup f9 = some ⟨oc9, od9, .func (PySem.W.fnOf "is_row" "is_row" (defArgs s_is_row) (defBody s_is_row) (defScope s_is_row) .none kV9 dc9 pm9 an9 cd9 ct9), sl9⟩) (c9 : PySem.W.codeIn K cd9 "is_row" = true) (k9 : PySem.W.keepIn K (.ref f9) = true)
    {f10 : Addr} {od10 an10 : Option Addr} {sl10 : Array (Option Value)} {oc10 kV10 dc10 pm10 cd10 ct10 : Value}
    (a10 : PySem.W.nsIn K mainGlobals "is_slot" = some (some (.ref f10))) (l10 : K.lookup f10 = some ⟨oc10, od10, .func (PySem.W.fnOf "is_slot" "is_slot" (defArgs s_is_slot) (defBody s_is_slot) (defScope s_is_slot) .none kV10 dc10 pm10 an10 cd10 ct10), sl10⟩) (c10 : PySem.W.codeIn K cd10 "is_slot" = true) (k10 : PySem.W.keepIn K (.ref f10) = true)
    {f11 : Addr} {od11 an11 : Option Addr} {sl11 : Array (Option Value)} {oc11 kV11 dc11 pm11 cd11 ct11 : Value}
    (a11 : PySem.W.nsIn K mainGlobals "are_parts" = some (some (.ref f11))) (l11 : K.lookup f11 = some ⟨oc11, od11, .func (PySem.W.fnOf "are_parts" "are_parts" (defArgs s_are_parts) (defBody s_are_parts) (defScope s_are_parts) .none kV11 dc11 pm11 an11 cd11 ct11), sl11⟩) (c11 : PySem.W.codeIn K cd11 "are_parts" = true) (k11 : PySem.W.keepIn K (.ref f11) = true)
    {f12 : Addr} {od12 an12 : Option Addr} {sl12 : Array (Option Value)} {oc12 kV12 dc12 pm12 cd12 ct12 : Value}
    (a12 : PySem.W.nsIn K mainGlobals "is_step" = some (some (.ref f12))) (l12 : K.lookup f12 = some ⟨oc12, od12, .func (PySem.W.fnOf "is_step" "is_step" (defArgs s_is_step) (defBody s_is_step) (defScope s_is_step) .none kV12 dc12 pm12 an12 cd12 ct12), sl12⟩) (c12 : PySem.W.codeIn K cd12 "is_step" = true) (k12 : PySem.W.keepIn K (.ref f12) = true)
    {f13 : Addr} {od13 an13 : Option Addr} {sl13 : Array (Option Value)} {oc13 kV13 dc13 pm13 cd13 ct13 : Value}
    (a13 : PySem.W.nsIn K mainGlobals "need_steps" = some (some (.ref f13))) (l13 : K.lookup f13 = some ⟨oc13, od13, .func (PySem.W.fnOf "need_steps" "need_steps" (defArgs s_need_steps) (defBody s_need_steps) (defScope s_need_steps) .none kV13 dc13 pm13 an13 cd13 ct13), sl13⟩) (c13 : PySem.W.codeIn K cd13 "need_steps" = true) (k13 : PySem.W.keepIn K (.ref f13) = true)
    {f14 : Addr} {od14 an14 : Option Addr} {sl14 : Array (Option Value)} {oc14 kV14 dc14 pm14 cd14 ct14 : Value}
    (a14 : PySem.W.findIn K (.ref C0) "__init__" = some (some (.ref f14))) (i14 : PySem.W.isFn K (.ref f14) = true) (l14 : K.lookup f14 = some ⟨oc14, od14, .func (PySem.W.fnOf "__init__" "Lift.__init__" (defArgs s_Lift___init__) (defBody s_Lift___init__) (defScope s_Lift___init__) .none kV14 dc14 pm14 an14 cd14 ct14), sl14⟩) (c14 : PySem.W.codeIn K cd14 "Lift.__init__" = true) (k14 : PySem.W.keepIn K (.ref f14) = true)
    {f15 : Addr} {od15 an15 : Option Addr} {sl15 : Array (Option Value)} {oc15 kV15 dc15 pm15 cd15 ct15 : Value}
    (a15 : PySem.W.nsIn K mainGlobals "in_terms" = some (some (.ref f15))) (l15 : K.lookup f15 = some ⟨oc15, od15, .func (PySem.W.fnOf "in_terms" "in_terms" (defArgs s_in_terms) (defBody s_in_terms) (defScope s_in_terms) .none kV15 dc15 pm15 an15 cd15 ct15), sl15⟩) (c15 : PySem.W.codeIn K cd15 "in_terms" = true) (k15 : PySem.W.keepIn K (.ref f15) = true)
    {f16 : Addr} {od16 an16 : Option Addr} {sl16 : Array (Option Value)} {oc16 kV16 dc16 pm16 cd16 ct16 : Value}
    (a16 : PySem.W.nsIn K mainGlobals "far_sum" = some (some (.ref f16))) (l16 : K.lookup f16 = some ⟨oc16, od16, .func (PySem.W.fnOf "far_sum" "far_sum" (defArgs s_far_sum) (defBody s_far_sum) (defScope s_far_sum) .none kV16 dc16 pm16 an16 cd16 ct16), sl16⟩) (c16 : PySem.W.codeIn K cd16 "far_sum" = true) (k16 : PySem.W.keepIn K (.ref f16) = true)
    {f17 : Addr} {od17 an17 : Option Addr} {sl17 : Array (Option Value)} {oc17 kV17 dc17 pm17 cd17 ct17 : Value}
    (a17 : PySem.W.findIn K (.ref C0) "far" = some (some (.ref f17))) (i17 : PySem.W.isFn K (.ref f17) = true) (l17 : K.lookup f17 = some ⟨oc17, od17, .func (PySem.W.fnOf "far" "Lift.far" (defArgs s_Lift_far) (defBody s_Lift_far) (defScope s_Lift_far) .none kV17 dc17 pm17 an17 cd17 ct17), sl17⟩) (c17 : PySem.W.codeIn K cd17 "Lift.far" = true) (k17 : PySem.W.keepIn K (.ref f17) = true)
    {f18 : Addr} {od18 an18 : Option Addr} {sl18 : Array (Option Value)} {oc18 kV18 dc18 pm18 cd18 ct18 : Value}
    (a18 : PySem.W.nsIn K mainGlobals "_law_gcd" = some (some (.ref f18))) (l18 : K.lookup f18 = some ⟨oc18, od18, .func (PySem.W.fnOf "_law_gcd" "_law_gcd" (defArgs s__law_gcd) (defBody s__law_gcd) (defScope s__law_gcd) .none kV18 dc18 pm18 an18 cd18 ct18), sl18⟩) (c18 : PySem.W.codeIn K cd18 "_law_gcd" = true) (k18 : PySem.W.keepIn K (.ref f18) = true)
    {f19 : Addr} {od19 an19 : Option Addr} {sl19 : Array (Option Value)} {oc19 kV19 dc19 pm19 cd19 ct19 : Value}
    (a19 : PySem.W.nsIn K mainGlobals "_law_sum" = some (some (.ref f19))) (l19 : K.lookup f19 = some ⟨oc19, od19, .func (PySem.W.fnOf "_law_sum" "_law_sum" (defArgs s__law_sum) (defBody s__law_sum) (defScope s__law_sum) .none kV19 dc19 pm19 an19 cd19 ct19), sl19⟩) (c19 : PySem.W.codeIn K cd19 "_law_sum" = true) (k19 : PySem.W.keepIn K (.ref f19) = true)
    {f20 : Addr} {od20 an20 : Option Addr} {sl20 : Array (Option Value)} {oc20 kV20 dc20 pm20 cd20 ct20 : Value}
    (a20 : PySem.W.nsIn K mainGlobals "_law_far" = some (some (.ref f20))) (l20 : K.lookup f20 = some ⟨oc20, od20, .func (PySem.W.fnOf "_law_far" "_law_far" (defArgs s__law_far) (defBody s__law_far) (defScope s__law_far) .none kV20 dc20 pm20 an20 cd20 ct20), sl20⟩) (c20 : PySem.W.codeIn K cd20 "_law_far" = true) (k20 : PySem.W.keepIn K (.ref f20) = true)
    {f21 : Addr} {od21 an21 : Option Addr} {sl21 : Array (Option Value)} {oc21 kV21 dc21 pm21 cd21 ct21 : Value}
    (a21 : PySem.W.nsIn K mainGlobals "_law_number" = some (some (.ref f21))) (l21 : K.lookup f21 = some ⟨oc21, od21, .func (PySem.W.fnOf "_law_number" "_law_number" (defArgs s__law_number) (defBody s__law_number) (defScope s__law_number) .none kV21 dc21 pm21 an21 cd21 ct21), sl21⟩) (c21 : PySem.W.codeIn K cd21 "_law_number" = true) (k21 : PySem.W.keepIn K (.ref f21) = true)
    {f22 : Addr} {od22 an22 : Option Addr} {sl22 : Array (Option Value)} {oc22 kV22 dc22 pm22 cd22 ct22 : Value}
    (a22 : PySem.W.nsIn K mainGlobals "_law_block" = some (some (.ref f22))) (l22 : K.lookup f22 = some ⟨oc22, od22, .func (PySem.W.fnOf "_law_block" "_law_block" (defArgs s__law_block) (defBody s__law_block) (defScope s__law_block) .none kV22 dc22 pm22 an22 cd22 ct22), sl22⟩) (c22 : PySem.W.codeIn K cd22 "_law_block" = true) (k22 : PySem.W.keepIn K (.ref f22) = true)
    {f23 : Addr} {od23 an23 : Option Addr} {sl23 : Array (Option Value)} {oc23 kV23 dc23 pm23 cd23 ct23 : Value}
    (a23 : PySem.W.nsIn K mainGlobals "is_block" = some (some (.ref f23))) (l23 : K.lookup f23 = some ⟨oc23, od23, .func (PySem.W.fnOf "is_block" "is_block" (defArgs s_is_block) (defBody s_is_block) (defScope s_is_block) .none kV23 dc23 pm23 an23 cd23 ct23), sl23⟩) (c23 : PySem.W.codeIn K cd23 "is_block" = true) (k23 : PySem.W.keepIn K (.ref f23) = true)
    {f24 : Addr} {od24 an24 : Option Addr} {sl24 : Array (Option Value)} {oc24 kV24 dc24 pm24 cd24 ct24 : Value}
    (a24 : PySem.W.nsIn K mainGlobals "need_block" = some (some (.ref f24))) (l24 : K.lookup f24 = some ⟨oc24, od24, .func (PySem.W.fnOf "need_block" "need_block" (defArgs s_need_block) (defBody s_need_block) (defScope s_need_block) .none kV24 dc24 pm24 an24 cd24 ct24), sl24⟩) (c24 : PySem.W.codeIn K cd24 "need_block" = true) (k24 : PySem.W.keepIn K (.ref f24) = true)
    {f25 : Addr} {od25 an25 : Option Addr} {sl25 : Array (Option Value)} {oc25 kV25 dc25 pm25 cd25 ct25 : Value}
    (a25 : PySem.W.nsIn K mainGlobals "share" = some (some (.ref f25))) (l25 : K.lookup f25 = some ⟨oc25, od25, .func (PySem.W.fnOf "share" "share" (defArgs s_share) (defBody s_share) (defScope s_share) .none kV25 dc25 pm25 an25 cd25 ct25), sl25⟩) (c25 : PySem.W.codeIn K cd25 "share" = true) (k25 : PySem.W.keepIn K (.ref f25) = true)
    {f26 : Addr} {od26 an26 : Option Addr} {sl26 : Array (Option Value)} {oc26 kV26 dc26 pm26 cd26 ct26 : Value}
    (a26 : PySem.W.findIn K (.ref C0) "forth" = some (some (.ref f26))) (i26 : PySem.W.isFn K (.ref f26) = true) (l26 : K.lookup f26 = some ⟨oc26, od26, .func (PySem.W.fnOf "forth" "Lift.forth" (defArgs s_Lift_forth) (defBody s_Lift_forth) (defScope s_Lift_forth) .none kV26 dc26 pm26 an26 cd26 ct26), sl26⟩) (c26 : PySem.W.codeIn K cd26 "Lift.forth" = true) (k26 : PySem.W.keepIn K (.ref f26) = true)
    {f27 : Addr} {od27 an27 : Option Addr} {sl27 : Array (Option Value)} {oc27 kV27 dc27 pm27 cd27 ct27 : Value}
    (a27 : PySem.W.nsIn K mainGlobals "_law_led" = some (some (.ref f27))) (l27 : K.lookup f27 = some ⟨oc27, od27, .func (PySem.W.fnOf "_law_led" "_law_led" (defArgs s__law_led) (defBody s__law_led) (defScope s__law_led) .none kV27 dc27 pm27 an27 cd27 ct27), sl27⟩) (c27 : PySem.W.codeIn K cd27 "_law_led" = true) (k27 : PySem.W.keepIn K (.ref f27) = true)
    {f28 : Addr} {od28 an28 : Option Addr} {sl28 : Array (Option Value)} {oc28 kV28 dc28 pm28 cd28 ct28 : Value}
    (a28 : PySem.W.nsIn K mainGlobals "_law_shifts_right" = some (some (.ref f28))) (l28 : K.lookup f28 = some ⟨oc28, od28, .func (PySem.W.fnOf "_law_shifts_right" "_law_shifts_right" (defArgs s__law_shifts_right) (defBody s__law_shifts_right) (defScope s__law_shifts_right) .none kV28 dc28 pm28 an28 cd28 ct28), sl28⟩) (c28 : PySem.W.codeIn K cd28 "_law_shifts_right" = true) (k28 : PySem.W.keepIn K (.ref f28) = true)
    {f29 : Addr} {od29 an29 : Option Addr} {sl29 : Array (Option Value)} {oc29 kV29 dc29 pm29 cd29 ct29 : Value}
    (a29 : PySem.W.nsIn K mainGlobals "raw_lift" = some (some (.ref f29))) (l29 : K.lookup f29 = some ⟨oc29, od29, .func (PySem.W.fnOf "raw_lift" "raw_lift" (defArgs s_raw_lift) (defBody s_raw_lift) (defScope s_raw_lift) .none kV29 dc29 pm29 an29 cd29 ct29), sl29⟩) (c29 : PySem.W.codeIn K cd29 "raw_lift" = true) (k29 : PySem.W.keepIn K (.ref f29) = true)
    {f30 : Addr} {od30 an30 : Option Addr} {sl30 : Array (Option Value)} {oc30 kV30 dc30 pm30 cd30 ct30 : Value}
    (a30 : PySem.W.nsIn K mainGlobals "turned_step" = some (some (.ref f30))) (l30 : K.lookup f30 = some ⟨oc30, od30, .func (PySem.W.fnOf "turned_step" "turned_step" (defArgs s_turned_step) (defBody s_turned_step) (defScope s_turned_step) .none kV30 dc30 pm30 an30 cd30 ct30), sl30⟩) (c30 : PySem.W.codeIn K cd30 "turned_step" = true) (k30 : PySem.W.keepIn K (.ref f30) = true)
    {f31 : Addr} {od31 an31 : Option Addr} {sl31 : Array (Option Value)} {oc31 kV31 dc31 pm31 cd31 ct31 : Value}
    (a31 : PySem.W.findIn K (.ref C0) "undone" = some (some (.ref f31))) (i31 : PySem.W.isFn K (.ref f31) = true) (l31 : K.lookup f31 = some ⟨oc31, od31, .func (PySem.W.fnOf "undone" "Lift.undone" (defArgs s_Lift_undone) (defBody s_Lift_undone) (defScope s_Lift_undone) .none kV31 dc31 pm31 an31 cd31 ct31), sl31⟩) (c31 : PySem.W.codeIn K cd31 "Lift.undone" = true) (k31 : PySem.W.keepIn K (.ref f31) = true)
    {f32 : Addr} {od32 an32 : Option Addr} {sl32 : Array (Option Value)} {oc32 kV32 dc32 pm32 cd32 ct32 : Value}
    (a32 : PySem.W.nsIn K mainGlobals "law" = some (some (.ref f32))) (l32 : K.lookup f32 = some ⟨oc32, od32, .func (PySem.W.fnOf "law" "law" (defArgs s_law) (defBody s_law) (defScope s_law) .none kV32 dc32 pm32 an32 cd32 ct32), sl32⟩) (c32 : PySem.W.codeIn K cd32 "law" = true) (k32 : PySem.W.keepIn K (.ref f32) = true)
    (z0 : PySem.W.nsIn K mainGlobals "abs" = some none)
    (z1 : PySem.W.nsIn K mainGlobals "all" = some none)
    (z2 : PySem.W.nsIn K mainGlobals "bool" = some none)
    (z3 : PySem.W.nsIn K mainGlobals "enumerate" = some none)
    (z4 : PySem.W.nsIn K mainGlobals "int" = some none)
    (z5 : PySem.W.nsIn K mainGlobals "isinstance" = some none)
    (z6 : PySem.W.nsIn K mainGlobals "len" = some none)
    (z7 : PySem.W.nsIn K mainGlobals "list" = some none)
    (z8 : PySem.W.nsIn K mainGlobals "range" = some none)
    (z9 : PySem.W.nsIn K mainGlobals "repr" = some none)
    (z10 : PySem.W.nsIn K mainGlobals "sum" = some none)
    (z11 : PySem.W.nsIn K mainGlobals "tuple" = some none)
    (z12 : PySem.W.nsIn K mainGlobals "zip" = some none)
    {tc0 : Tok} (v0 : PySem.W.nsIn K mainGlobals "MOST_ADD" = some (some (.int 99 tc0)))
    {tc1 : Tok} (v1 : PySem.W.nsIn K mainGlobals "MOST_OVER" = some (some (.int 9 tc1)))
    {tc2 : Tok} (v2 : PySem.W.nsIn K mainGlobals "MOST_STEPS" = some (some (.int 12 tc2)))
    {tc3 : Tok} (v3 : PySem.W.nsIn K mainGlobals "MOST_TIMES" = some (some (.int 9 tc3)))
    {tc4 : Tok} (v4 : PySem.W.nsIn K mainGlobals "WIDEST" = some (some (.int 6 tc4)))
    (mm_gcd : PySem.W.nsIn K mainGlobals "gcd" = some (some (.builtin "math.gcd")))
    (na0 : PySem.W.findIn K (.ref C0) "steps" = some none)
    (na1 : PySem.W.findIn K (.ref C0) "width" = some none)
    : ∃ fd : FuncData, (∀ (s : Shared) (v : Value), BindsTo s fd ⟨[v], []⟩ [("script", v)]) ∧ ∀ base : Heap, K.In base → base.Ns mainGlobals mg → FnG l.prog w K mg base 13 fa fd ["script"] (spF K false 1 F_law) := by
  have e := hfa.symm.trans (PySem.W.mg_of X G a32)
  cases e
  have T : Txt K mg := ⟨⟨⟨_, _, fun_mk (st := s__law_pen) l0 c0 k0, PySem.W.mg_of X G a0⟩⟩,
    ⟨⟨_, _, fun_mk (st := s__law_draw) l1 c1 k1, PySem.W.mg_of X G a1⟩⟩,
    ⟨⟨_, _, fun_mk (st := s__law_pick) l2 c2 k2, PySem.W.mg_of X G a2⟩⟩,
    ⟨⟨_, _, fun_mk (st := s__law_step) l3 c3 k3, PySem.W.mg_of X G a3⟩⟩,
    ⟨⟨_, _, fun_mk (st := s__law_steps) l4 c4 k4, PySem.W.mg_of X G a4⟩⟩,
    ⟨⟨_, _, fun_mk (st := s_is_integer) l5 c5 k5, PySem.W.mg_of X G a5⟩⟩,
    ⟨⟨_, _, fun_mk (st := s_is_within) l6 c6 k6, PySem.W.mg_of X G a6⟩⟩,
    ⟨⟨_, _, fun_mk (st := s_need_within) l7 c7 k7, PySem.W.mg_of X G a7⟩⟩,
    ⟨⟨_, _, fun_mk (st := s_need_width) l8 c8 k8, PySem.W.mg_of X G a8⟩⟩,
    ⟨⟨_, _, fun_mk (st := s_is_row) l9 c9 k9, PySem.W.mg_of X G a9⟩⟩,
    ⟨⟨_, _, fun_mk (st := s_is_slot) l10 c10 k10, PySem.W.mg_of X G a10⟩⟩,
    ⟨⟨_, _, fun_mk (st := s_are_parts) l11 c11 k11, PySem.W.mg_of X G a11⟩⟩,
    ⟨⟨_, _, fun_mk (st := s_is_step) l12 c12 k12, PySem.W.mg_of X G a12⟩⟩,
    ⟨⟨_, _, fun_mk (st := s_need_steps) l13 c13 k13, PySem.W.mg_of X G a13⟩⟩,
    ⟨⟨_, _, _, x0, ⟨mk0, a14, i14, kc0⟩, fun_mk (st := s_Lift___init__) l14 c14 k14, PySem.W.mg_of X G x0⟩⟩,
    ⟨⟨_, _, fun_mk (st := s_in_terms) l15 c15 k15, PySem.W.mg_of X G a15⟩⟩,
    ⟨⟨_, _, fun_mk (st := s_far_sum) l16 c16 k16, PySem.W.mg_of X G a16⟩⟩,
    ⟨⟨_, _, _, x0, ⟨pg0, hd0, po0, sa0⟩, ⟨a17, i17, k17⟩, fun_mk (st := s_Lift_far) l17 c17 k17⟩⟩,
    ⟨⟨_, _, fun_mk (st := s__law_gcd) l18 c18 k18, PySem.W.mg_of X G a18⟩⟩,
    ⟨⟨_, _, fun_mk (st := s__law_sum) l19 c19 k19, PySem.W.mg_of X G a19⟩⟩,
    ⟨⟨_, _, fun_mk (st := s__law_far) l20 c20 k20, PySem.W.mg_of X G a20⟩⟩,
    ⟨⟨_, _, fun_mk (st := s__law_number) l21 c21 k21, PySem.W.mg_of X G a21⟩⟩,
    ⟨⟨_, _, fun_mk (st := s__law_block) l22 c22 k22, PySem.W.mg_of X G a22⟩⟩,
    ⟨⟨_, _, fun_mk (st := s_is_block) l23 c23 k23, PySem.W.mg_of X G a23⟩⟩,
    ⟨⟨_, _, fun_mk (st := s_need_block) l24 c24 k24, PySem.W.mg_of X G a24⟩⟩,
    ⟨⟨_, _, fun_mk (st := s_share) l25 c25 k25, PySem.W.mg_of X G a25⟩⟩,
    ⟨⟨_, _, _, x0, ⟨pg0, hd0, po0, sa0⟩, ⟨a26, i26, k26⟩, fun_mk (st := s_Lift_forth) l26 c26 k26⟩⟩,
    ⟨⟨_, _, fun_mk (st := s__law_led) l27 c27 k27, PySem.W.mg_of X G a27⟩⟩,
    ⟨⟨_, _, fun_mk (st := s__law_shifts_right) l28 c28 k28, PySem.W.mg_of X G a28⟩⟩,
    ⟨⟨_, _, fun_mk (st := s_raw_lift) l29 c29 k29, PySem.W.mg_of X G a29⟩⟩,
    ⟨⟨_, _, fun_mk (st := s_turned_step) l30 c30 k30, PySem.W.mg_of X G a30⟩⟩,
    ⟨⟨_, _, _, x0, ⟨pg0, hd0, po0, sa0⟩, ⟨a31, i31, k31⟩, fun_mk (st := s_Lift_undone) l31 c31 k31⟩⟩,
    ⟨⟨_, _, fun_mk (st := s_law) l32 c32 k32, PySem.W.mg_of X G a32⟩⟩,
    PySem.W.mg_none_of X G z0,
    PySem.W.mg_none_of X G z1,
    PySem.W.mg_none_of X G z2,
    PySem.W.mg_none_of X G z3,
    PySem.W.mg_none_of X G z4,
    PySem.W.mg_none_of X G z5,
    PySem.W.mg_none_of X G z6,
    PySem.W.mg_none_of X G z7,
    PySem.W.mg_none_of X G z8,
    PySem.W.mg_none_of X G z9,
    PySem.W.mg_none_of X G z10,
    PySem.W.mg_none_of X G z11,
    PySem.W.mg_none_of X G z12,
    Cn.int (PySem.W.mg_of X G v0),
    Cn.int (PySem.W.mg_of X G v1),
    Cn.int (PySem.W.mg_of X G v2),
    Cn.int (PySem.W.mg_of X G v3),
    Cn.int (PySem.W.mg_of X G v4),
    PySem.W.mg_of X G mm_gcd,
    ⟨⟨_, x0, ⟨pg0, hd0, po0, sa0⟩, na0⟩⟩,
    ⟨⟨_, x0, ⟨pg0, hd0, po0, sa0⟩, na1⟩⟩⟩
  refine ⟨PySem.W.fnOf "law" "law" (defArgs s_law) (defBody s_law) (defScope s_law) .none kV32 dc32 pm32 an32 cd32 ct32, fun s v => .of_eq rfl, fun base _ _ => ?_⟩
  obtain ⟨f, fd, F, H, hm⟩ := (kn_law (P := l.prog) (w := w) (base := base) T).ex
  cases hfa.symm.trans hm
  have e2 := (fun_mk (st := s_law) l32 c32 k32)
  exact (Fun.same F e2) ▸ H
end Fx

set_option Elab.async false
set_option linter.all false
set_option maxRecDepth 100000
namespace Fx
open PySem L2 PyProof.Rows
/-! ### the draws -/
def Pen (b : Nat) (P : List D) : Prop := ∃ (cs : List Int) (t p : Int), P = [.lst (cs.map D.int), .int t, .int p] ∧ cs.length ≤ 63 ∧ 0 ≤ t ∧ t ≤ b
theorem Pen.mono {b c : Nat} {P : List D} (h : Pen b P) (e : b ≤ c) : Pen c P := by
  obtain ⟨cs, t, p, h1, h2, h3, h4⟩ := h
  exact ⟨cs, t, p, h1, h2, h3, by omega⟩
theorem log_lt {m : Int} (h : 0 < m) (h2 : m < 2 ^ 90) : m.natAbs.log2 < 9000 := by
  rcases Nat.eq_zero_or_pos m.natAbs with h0 | h0
  · rw [h0]
    decide
  · refine (Nat.log2_lt (by omega)).mpr ?_
    refine Nat.lt_of_lt_of_le (m := 2 ^ 90) (by omega) (Nat.pow_le_pow_right (by decide) (by decide))
theorem start2 {as : List D} {d : D} : startS 7 true [.lst as, d] = [.io as, .va d, .un, .un, .un, .un, .un] := rfl
theorem ne_nilL (cs : List Int) : neD (.lst (cs.map D.int)) (.lst []) = some (.bl (!decide (cs = []))) := ne_ints cs []
theorem at_mod {cs : List Int} {t : Int} (h : cs ≠ []) (ht : 0 ≤ t) : ∃ c, atD (cs.map D.int) (t % ((cs.map D.int).length : Int)) = some (.int c) := by
  have hl : 0 < cs.length := List.length_pos_iff.mpr h
  rw [List.length_map]
  have h1 : 0 ≤ t % (cs.length : Int) := Int.emod_nonneg _ (by omega)
  have h2 : t % (cs.length : Int) < cs.length := Int.emod_lt_of_pos _ (by omega)
  have h3 : (t % (cs.length : Int)).toNat < cs.length := by omega
  refine ⟨cs[(t % (cs.length : Int)).toNat], ev_int h1 ?_⟩
  rw [List.getElem?_map, List.getElem?_eq_getElem h3]
  rfl
theorem pow_ok {i : Int} {k : Nat} (hk : k ≤ 1000000) (h0 : 0 ≤ i) (h : i < 2 ^ 64) : powD (.int i) (.int (k : Int)) = some (.int (i ^ k)) := by
  rw [ev_powI ⟨by omega, by omega, by omega⟩]
  rw [Int.toNat_natCast]
theorem draw {b : Nat} {P : List D} {m : Int} (h : Pen b P) (hb : b < 2 ^ 20) (hm : 0 < m) (hm2 : m < 2 ^ 90) : ∃ r P', F__law_draw [.lst P, .int m] = .ret (.int r) (.l P') ∧ 0 ≤ r ∧ r < m ∧ Pen (b + 1) P' := by
  obtain ⟨cs, t, p, rfl, hl, ht, htb⟩ := h
  have hlg := log_lt hm hm2
  have em : ∀ i : Int, modD (.int i) (.int m) = some (.int (i % m)) := fun i => ev_modI hm
  have ed : ∀ i : Int, fdivD (.int i) (.int m) = some (.int (i / m)) := fun i => ev_fdivI hm hlg
  by_cases hp : 0 < p
  · refine ⟨p % m, [.lst (cs.map D.int), .int t, .int (p / m)], ?_, Int.emod_nonneg _ (by omega), Int.emod_lt_of_pos _ hm, cs, t, p / m, rfl, hl, ht, by omega⟩
    show outF true (g__law_draw _) = _
    rw [start2]
    simp only [g__law_draw, ev_name, ev_c, ev_op2, ev_op1, ev_toR1, ev_toRL1, ev_nil, ev_cons, ev_opn, ev_opnN, ev_tup, ev_lst, ev_lstN, ev_new, ev_tst, ev_notT, ev_andT, ev_orT, ev_notF, ev_andF, ev_orF, ev_ifF, ev_yes, ev_iter, ev_rng1, ev_rng2, ev_rngW, ev_noP, ev_sl, ev_part, ev_next, ev_noG, ev_seq, ev_drop, ev_ret, ev_retN, ev_if, ev_asg, ev_setA, ev_nilA, ev_consA, ev_seqT, ev_seqL, ev_setN, ev_ok, ev_ioV, ev_ioU, ev_ioW, ev_owV, ev_owU, ev_own, ev_put, ev_ixOwn, ev_lenOwn, ev_setIx, ev_comp, ev_compL0, ev_compL1, ev_okC, ev_wipe1, ev_wipe0, ev_rest1, ev_rest0, ev_call, ev_callN, ev_ofr, ev_ofn, ev_ofnN, ev_mut, ev_mdl, ev_mdi, ev_io, ev_addI, ev_subI, ev_negI, ev_cmpI, ev_eqI, ev_neI, ev_eqS, ev_neS, ev_intI, ev_intB, ev_absI, ev_lenL, ev_lenT, ev_ixL, ev_ixT, ev_at0, ev_at1, ev_at2, ev_i30, ev_i31, ev_i32, ev_pk1, ev_pk2, ev_pk3, ev_pk4, ev_pkw1, ev_pkw2, ev_pkv2, ev_isI, ev_isN, ev_isB, ev_inI, ev_inN, ev_inB, ev_listT, ev_listL, ev_tupT, ev_tupL, ev_fld, ev_insAt, ev_fldOwn, ev_fldG, ev_meth, ev_make, ev_callL, ev_noLI, ev_nilL, ev_nameL, ev_lendL, ev_conL, ev_augIx, ev_putAt, ev_iadd, ev_isub, ev_revT, ev_enum, ev_zip, ev_seqDL, ev_seqDT, ev_nilM, ev_vaM, ev_owM, ev_parM, ev_app, ev_par, ev_par3, R.bind_ok, R.out_ok, Option.bind_some, List.getElem?_cons_succ, List.getElem?_cons_zero, List.set_cons_succ, List.set_cons_zero, List.length_cons, List.length_nil, Nat.reduceAdd, Nat.reduceEqDiff, List.getD_cons_succ, List.getD_cons_zero, decide_true, decide_false, Bool.and_true, Bool.and_self, and_self, true_and, List.all_cons, List.all_nil, Bool.not_true, Bool.not_false, if_true, Bool.true_eq_false, Bool.false_eq_true, if_false, em, ed, decide_eq_true hp]
    rfl
  · have hp' : decide (0 < p) = false := decide_eq_false hp
    have m1 : mulD (.int 57709) (.int t) = some (.int (57709 * t)) := ev_mulS (.inl ⟨by decide, by decide⟩)
    have m2 : mulD (.int 2) (.int t) = some (.int (2 * t)) := ev_mulS (.inl ⟨by decide, by decide⟩)
    have m3 : mulD (.int (57709 * t)) (.int t) = some (.int (57709 * t * t)) := ev_mulS (.inr ⟨by omega, by omega⟩)
    have e1 : ∀ i : Int, modD (.int i) (.int 2147483563) = some (.int (i % 2147483563)) := fun i => ev_modI (by decide)
    have e2 : ∀ i : Int, modD (.int i) (.int 2147483629) = some (.int (i % 2147483629)) := fun i => ev_modI (by decide)
    have e3 : ∀ i : Int, modD (.int i) (.int 2147483587) = some (.int (i % 2147483587)) := fun i => ev_modI (by decide)
    have e4 : ∀ i : Int, fdivD (.int i) (.int 32) = some (.int (i / 32)) := fun i => ev_fdivI (by decide) (by decide)
    have p1 : ∀ c : Int, powD (.int (c % 2147483563 + 57709 * t + 6151)) (.int 5) = some (.int ((c % 2147483563 + 57709 * t + 6151) ^ 5)) := fun c => pow_ok (k := 5) (by decide) (by omega) (by omega)
    have p18 : powD (.int 10) (.int 18) = some (.int 1000000000000000000) := rfl
    have m4 : ∀ x : Int, mulD (.int (x % 2147483629)) (.int (2 * t + 953)) = some (.int (x % 2147483629 * (2 * t + 953))) := fun x => ev_mulS (.inl ⟨by omega, by omega⟩)
    have p2 : ∀ x : Int, powD (.int (x % 2147483629 * (2 * t + 953) + 57709 * t * t + 6151)) (.int 3) = some (.int ((x % 2147483629 * (2 * t + 953) + 57709 * t * t + 6151) ^ 3)) := fun x => by
      have h1 : 0 ≤ x % 2147483629 * (2 * t + 953) := Int.mul_nonneg (by omega) (by omega)
      have h2 : 0 ≤ 57709 * t * t := Int.mul_nonneg (by omega) ht
      have h3 : x % 2147483629 * (2 * t + 953) ≤ 2147483629 * 2098105 := Int.mul_le_mul (by omega) (by omega) (by omega) (by omega)
      have h4 : 57709 * t * t ≤ 60512272384 * 1048576 := Int.mul_le_mul (by omega) (by omega) ht (by omega)
      exact pow_ok (k := 3) (by decide) (by omega) (by omega)
    by_cases hc : cs = []
    · subst hc
      have ht' : decide (t < ((0 : Nat) : Int)) = false := decide_eq_false (by omega)
      have n0 : neD (.lst []) (.lst []) = some (.bl false) := ne_nilL []
      refine ⟨?x1 % m, [.lst ([].map D.int), .int (t + 1), .int p], ?e, Int.emod_nonneg _ (by omega), Int.emod_lt_of_pos _ hm, [], t + 1, p, rfl, hl, by omega, by omega⟩
      case e =>
        show outF true (g__law_draw _) = _
        rw [start2]
        simp only [g__law_draw, ev_name, ev_c, ev_op2, ev_op1, ev_toR1, ev_toRL1, ev_nil, ev_cons, ev_opn, ev_opnN, ev_tup, ev_lst, ev_lstN, ev_new, ev_tst, ev_notT, ev_andT, ev_orT, ev_notF, ev_andF, ev_orF, ev_ifF, ev_yes, ev_iter, ev_rng1, ev_rng2, ev_rngW, ev_noP, ev_sl, ev_part, ev_next, ev_noG, ev_seq, ev_drop, ev_ret, ev_retN, ev_if, ev_asg, ev_setA, ev_nilA, ev_consA, ev_seqT, ev_seqL, ev_setN, ev_ok, ev_ioV, ev_ioU, ev_ioW, ev_owV, ev_owU, ev_own, ev_put, ev_ixOwn, ev_lenOwn, ev_setIx, ev_comp, ev_compL0, ev_compL1, ev_okC, ev_wipe1, ev_wipe0, ev_rest1, ev_rest0, ev_call, ev_callN, ev_ofr, ev_ofn, ev_ofnN, ev_mut, ev_mdl, ev_mdi, ev_io, ev_addI, ev_subI, ev_negI, ev_cmpI, ev_eqI, ev_neI, ev_eqS, ev_neS, ev_intI, ev_intB, ev_absI, ev_lenL, ev_lenT, ev_ixL, ev_ixT, ev_at0, ev_at1, ev_at2, ev_i30, ev_i31, ev_i32, ev_pk1, ev_pk2, ev_pk3, ev_pk4, ev_pkw1, ev_pkw2, ev_pkv2, ev_isI, ev_isN, ev_isB, ev_inI, ev_inN, ev_inB, ev_listT, ev_listL, ev_tupT, ev_tupL, ev_fld, ev_insAt, ev_fldOwn, ev_fldG, ev_meth, ev_make, ev_callL, ev_noLI, ev_nilL, ev_nameL, ev_lendL, ev_conL, ev_augIx, ev_putAt, ev_iadd, ev_isub, ev_revT, ev_enum, ev_zip, ev_seqDL, ev_seqDT, ev_nilM, ev_vaM, ev_owM, ev_parM, ev_app, ev_par, ev_par3, R.bind_ok, R.out_ok, Option.bind_some, List.getElem?_cons_succ, List.getElem?_cons_zero, List.set_cons_succ, List.set_cons_zero, List.length_cons, List.length_nil, Nat.reduceAdd, Nat.reduceEqDiff, List.getD_cons_succ, List.getD_cons_zero, decide_true, decide_false, Bool.and_true, Bool.and_self, and_self, true_and, List.all_cons, List.all_nil, Bool.not_true, Bool.not_false, if_true, Bool.true_eq_false, Bool.false_eq_true, if_false, em, ed, hp', m1, m2, m3, e1, e2, e3, e4, p1, p18, m4, p2, ht', n0, List.map_nil, Nat.zero_le]
        rfl
    · obtain ⟨c, ec⟩ := at_mod hc ht
      have n0 : neD (.lst (cs.map D.int)) (.lst []) = some (.bl true) := by
        rw [ne_nilL, decide_eq_false hc]
        rfl
      have m5 : ∀ x : Int, mulD (.int 2) (.int x) = some (.int (2 * x)) := fun x => ev_mulS (.inl ⟨by decide, by decide⟩)
      have el : ∀ i : Int, modD (.int i) (.int ((cs.map D.int).length : Int)) = some (.int (i % ((cs.map D.int).length : Int))) := fun i => ev_modI (by
        rw [List.length_map]
        have := List.length_pos_iff.mpr hc
        omega)
      cases h1 : decide (t < ((cs.map D.int).length : Int)) && decide ((1000000000000000000 : Int) ≤ (if c < 0 then -c else c)) with
      | true =>
        rw [Bool.and_eq_true] at h1
        refine ⟨?x2 % m, [.lst (cs.map D.int), .int (t + 1), .int (?x2 / m)], ?e, Int.emod_nonneg _ (by omega), Int.emod_lt_of_pos _ hm, cs, t + 1, _, rfl, hl, by omega, by omega⟩
        case e =>
          show outF true (g__law_draw _) = _
          rw [start2]
          simp only [g__law_draw, ev_name, ev_c, ev_op2, ev_op1, ev_toR1, ev_toRL1, ev_nil, ev_cons, ev_opn, ev_opnN, ev_tup, ev_lst, ev_lstN, ev_new, ev_tst, ev_notT, ev_andT, ev_orT, ev_notF, ev_andF, ev_orF, ev_ifF, ev_yes, ev_iter, ev_rng1, ev_rng2, ev_rngW, ev_noP, ev_sl, ev_part, ev_next, ev_noG, ev_seq, ev_drop, ev_ret, ev_retN, ev_if, ev_asg, ev_setA, ev_nilA, ev_consA, ev_seqT, ev_seqL, ev_setN, ev_ok, ev_ioV, ev_ioU, ev_ioW, ev_owV, ev_owU, ev_own, ev_put, ev_ixOwn, ev_lenOwn, ev_setIx, ev_comp, ev_compL0, ev_compL1, ev_okC, ev_wipe1, ev_wipe0, ev_rest1, ev_rest0, ev_call, ev_callN, ev_ofr, ev_ofn, ev_ofnN, ev_mut, ev_mdl, ev_mdi, ev_io, ev_addI, ev_subI, ev_negI, ev_cmpI, ev_eqI, ev_neI, ev_eqS, ev_neS, ev_intI, ev_intB, ev_absI, ev_lenL, ev_lenT, ev_ixL, ev_ixT, ev_at0, ev_at1, ev_at2, ev_i30, ev_i31, ev_i32, ev_pk1, ev_pk2, ev_pk3, ev_pk4, ev_pkw1, ev_pkw2, ev_pkv2, ev_isI, ev_isN, ev_isB, ev_inI, ev_inN, ev_inB, ev_listT, ev_listL, ev_tupT, ev_tupL, ev_fld, ev_insAt, ev_fldOwn, ev_fldG, ev_meth, ev_make, ev_callL, ev_noLI, ev_nilL, ev_nameL, ev_lendL, ev_conL, ev_augIx, ev_putAt, ev_iadd, ev_isub, ev_revT, ev_enum, ev_zip, ev_seqDL, ev_seqDT, ev_nilM, ev_vaM, ev_owM, ev_parM, ev_app, ev_par, ev_par3, R.bind_ok, R.out_ok, Option.bind_some, List.getElem?_cons_succ, List.getElem?_cons_zero, List.set_cons_succ, List.set_cons_zero, List.length_cons, List.length_nil, Nat.reduceAdd, Nat.reduceEqDiff, List.getD_cons_succ, List.getD_cons_zero, decide_true, decide_false, Bool.and_true, Bool.and_self, and_self, true_and, List.all_cons, List.all_nil, Bool.not_true, Bool.not_false, if_true, Bool.true_eq_false, Bool.false_eq_true, if_false, em, ed, hp', m1, m5, e1, e2, e3, e4, p18, n0, ec, el, h1.1, h1.2, Nat.zero_le]
          rfl
      | false =>
        refine ⟨?x3 % m, [.lst (cs.map D.int), .int (t + 1), .int p], ?e, Int.emod_nonneg _ (by omega), Int.emod_lt_of_pos _ hm, cs, t + 1, p, rfl, hl, by omega, by omega⟩
        case e =>
          show outF true (g__law_draw _) = _
          rw [start2]
          rw [Bool.and_eq_false_iff] at h1
          by_cases h2 : decide (t < ((cs.map D.int).length : Int)) = true
          · have h3 := h1.resolve_left (by rw [h2]; decide)
            simp only [g__law_draw, ev_name, ev_c, ev_op2, ev_op1, ev_toR1, ev_toRL1, ev_nil, ev_cons, ev_opn, ev_opnN, ev_tup, ev_lst, ev_lstN, ev_new, ev_tst, ev_notT, ev_andT, ev_orT, ev_notF, ev_andF, ev_orF, ev_ifF, ev_yes, ev_iter, ev_rng1, ev_rng2, ev_rngW, ev_noP, ev_sl, ev_part, ev_next, ev_noG, ev_seq, ev_drop, ev_ret, ev_retN, ev_if, ev_asg, ev_setA, ev_nilA, ev_consA, ev_seqT, ev_seqL, ev_setN, ev_ok, ev_ioV, ev_ioU, ev_ioW, ev_owV, ev_owU, ev_own, ev_put, ev_ixOwn, ev_lenOwn, ev_setIx, ev_comp, ev_compL0, ev_compL1, ev_okC, ev_wipe1, ev_wipe0, ev_rest1, ev_rest0, ev_call, ev_callN, ev_ofr, ev_ofn, ev_ofnN, ev_mut, ev_mdl, ev_mdi, ev_io, ev_addI, ev_subI, ev_negI, ev_cmpI, ev_eqI, ev_neI, ev_eqS, ev_neS, ev_intI, ev_intB, ev_absI, ev_lenL, ev_lenT, ev_ixL, ev_ixT, ev_at0, ev_at1, ev_at2, ev_i30, ev_i31, ev_i32, ev_pk1, ev_pk2, ev_pk3, ev_pk4, ev_pkw1, ev_pkw2, ev_pkv2, ev_isI, ev_isN, ev_isB, ev_inI, ev_inN, ev_inB, ev_listT, ev_listL, ev_tupT, ev_tupL, ev_fld, ev_insAt, ev_fldOwn, ev_fldG, ev_meth, ev_make, ev_callL, ev_noLI, ev_nilL, ev_nameL, ev_lendL, ev_conL, ev_augIx, ev_putAt, ev_iadd, ev_isub, ev_revT, ev_enum, ev_zip, ev_seqDL, ev_seqDT, ev_nilM, ev_vaM, ev_owM, ev_parM, ev_app, ev_par, ev_par3, R.bind_ok, R.out_ok, Option.bind_some, List.getElem?_cons_succ, List.getElem?_cons_zero, List.set_cons_succ, List.set_cons_zero, List.length_cons, List.length_nil, Nat.reduceAdd, Nat.reduceEqDiff, List.getD_cons_succ, List.getD_cons_zero, decide_true, decide_false, Bool.and_true, Bool.and_self, and_self, true_and, List.all_cons, List.all_nil, Bool.not_true, Bool.not_false, if_true, Bool.true_eq_false, Bool.false_eq_true, if_false, em, ed, hp', m1, m2, m3, e1, e2, e3, e4, p1, p18, m4, p2, n0, ec, el, h2, h3, Nat.zero_le]
            rfl
          · have h3 : decide (t < ((cs.map D.int).length : Int)) = false := by
              cases h : decide (t < ((cs.map D.int).length : Int)) with
              | true => exact absurd h h2
              | false => rfl
            simp only [g__law_draw, ev_name, ev_c, ev_op2, ev_op1, ev_toR1, ev_toRL1, ev_nil, ev_cons, ev_opn, ev_opnN, ev_tup, ev_lst, ev_lstN, ev_new, ev_tst, ev_notT, ev_andT, ev_orT, ev_notF, ev_andF, ev_orF, ev_ifF, ev_yes, ev_iter, ev_rng1, ev_rng2, ev_rngW, ev_noP, ev_sl, ev_part, ev_next, ev_noG, ev_seq, ev_drop, ev_ret, ev_retN, ev_if, ev_asg, ev_setA, ev_nilA, ev_consA, ev_seqT, ev_seqL, ev_setN, ev_ok, ev_ioV, ev_ioU, ev_ioW, ev_owV, ev_owU, ev_own, ev_put, ev_ixOwn, ev_lenOwn, ev_setIx, ev_comp, ev_compL0, ev_compL1, ev_okC, ev_wipe1, ev_wipe0, ev_rest1, ev_rest0, ev_call, ev_callN, ev_ofr, ev_ofn, ev_ofnN, ev_mut, ev_mdl, ev_mdi, ev_io, ev_addI, ev_subI, ev_negI, ev_cmpI, ev_eqI, ev_neI, ev_eqS, ev_neS, ev_intI, ev_intB, ev_absI, ev_lenL, ev_lenT, ev_ixL, ev_ixT, ev_at0, ev_at1, ev_at2, ev_i30, ev_i31, ev_i32, ev_pk1, ev_pk2, ev_pk3, ev_pk4, ev_pkw1, ev_pkw2, ev_pkv2, ev_isI, ev_isN, ev_isB, ev_inI, ev_inN, ev_inB, ev_listT, ev_listL, ev_tupT, ev_tupL, ev_fld, ev_insAt, ev_fldOwn, ev_fldG, ev_meth, ev_make, ev_callL, ev_noLI, ev_nilL, ev_nameL, ev_lendL, ev_conL, ev_augIx, ev_putAt, ev_iadd, ev_isub, ev_revT, ev_enum, ev_zip, ev_seqDL, ev_seqDT, ev_nilM, ev_vaM, ev_owM, ev_parM, ev_app, ev_par, ev_par3, R.bind_ok, R.out_ok, Option.bind_some, List.getElem?_cons_succ, List.getElem?_cons_zero, List.set_cons_succ, List.set_cons_zero, List.length_cons, List.length_nil, Nat.reduceAdd, Nat.reduceEqDiff, List.getD_cons_succ, List.getD_cons_zero, decide_true, decide_false, Bool.and_true, Bool.and_self, and_self, true_and, List.all_cons, List.all_nil, Bool.not_true, Bool.not_false, if_true, Bool.true_eq_false, Bool.false_eq_true, if_false, em, ed, hp', m1, m2, m3, e1, e2, e3, e4, p1, p18, m4, p2, n0, ec, el, h3, Nat.zero_le]
            rfl
end Fx

set_option Elab.async false
set_option linter.all false
set_option maxRecDepth 100000
set_option exponentiation.threshold 1000
namespace Fx
open PySem L2 PyProof.Rows
theorem rs_floor_floor : decide (("floor" : Str) = "floor") = true := by decide
theorem rs_floor_ceil : decide (("floor" : Str) = "ceil") = false := by decide
theorem rs_floor_up : decide (("floor" : Str) = "up") = false := by decide
theorem rs_floor_down : decide (("floor" : Str) = "down") = false := by decide
theorem rs_floor_even : decide (("floor" : Str) = "even") = false := by decide
theorem rs_floor_odd : decide (("floor" : Str) = "odd") = false := by decide
theorem rs_ceil_floor : decide (("ceil" : Str) = "floor") = false := by decide
theorem rs_ceil_ceil : decide (("ceil" : Str) = "ceil") = true := by decide
theorem rs_ceil_up : decide (("ceil" : Str) = "up") = false := by decide
theorem rs_ceil_down : decide (("ceil" : Str) = "down") = false := by decide
theorem rs_ceil_even : decide (("ceil" : Str) = "even") = false := by decide
theorem rs_ceil_odd : decide (("ceil" : Str) = "odd") = false := by decide
theorem rs_up_floor : decide (("up" : Str) = "floor") = false := by decide
theorem rs_up_ceil : decide (("up" : Str) = "ceil") = false := by decide
theorem rs_up_up : decide (("up" : Str) = "up") = true := by decide
theorem rs_up_down : decide (("up" : Str) = "down") = false := by decide
theorem rs_up_even : decide (("up" : Str) = "even") = false := by decide
theorem rs_up_odd : decide (("up" : Str) = "odd") = false := by decide
theorem rs_down_floor : decide (("down" : Str) = "floor") = false := by decide
theorem rs_down_ceil : decide (("down" : Str) = "ceil") = false := by decide
theorem rs_down_up : decide (("down" : Str) = "up") = false := by decide
theorem rs_down_down : decide (("down" : Str) = "down") = true := by decide
theorem rs_down_even : decide (("down" : Str) = "even") = false := by decide
theorem rs_down_odd : decide (("down" : Str) = "odd") = false := by decide
theorem rs_even_floor : decide (("even" : Str) = "floor") = false := by decide
theorem rs_even_ceil : decide (("even" : Str) = "ceil") = false := by decide
theorem rs_even_up : decide (("even" : Str) = "up") = false := by decide
theorem rs_even_down : decide (("even" : Str) = "down") = false := by decide
theorem rs_even_even : decide (("even" : Str) = "even") = true := by decide
theorem rs_even_odd : decide (("even" : Str) = "odd") = false := by decide
theorem rs_odd_floor : decide (("odd" : Str) = "floor") = false := by decide
theorem rs_odd_ceil : decide (("odd" : Str) = "ceil") = false := by decide
theorem rs_odd_up : decide (("odd" : Str) = "up") = false := by decide
theorem rs_odd_down : decide (("odd" : Str) = "down") = false := by decide
theorem rs_odd_even : decide (("odd" : Str) = "even") = false := by decide
theorem rs_odd_odd : decide (("odd" : Str) = "odd") = true := by decide
theorem sl63 {n : Nat} (h : n ≤ 63) : n ≤ sizeLine := by
  rw [sizeLine_eq]
  omega
theorem pick {b : Nat} {P xs : List D} (h : Pen b P) (hb : b < 2 ^ 20) (h0 : xs ≠ []) (hl : xs.length < 1000000) : ∃ d P', F__law_pick [.lst P, .lst xs] = .ret d (.l P') ∧ d ∈ xs ∧ Pen (b + 1) P' := by
  have hp : 0 < xs.length := List.length_pos_iff.mpr h0
  obtain ⟨r, P', e, r0, r1, hP⟩ := draw (m := (xs.length : Int)) h hb (by omega) (by omega)
  have hr : r.toNat < xs.length := by omega
  have ea : atD xs r = some xs[r.toNat] := ev_int r0 (List.getElem?_eq_getElem hr)
  refine ⟨xs[r.toNat], P', ?_, List.getElem_mem hr, hP⟩
  show outF true (g__law_pick [.io P, .va (.lst xs)]) = _
  simp only [g__law_pick, ev_name, ev_c, ev_op2, ev_op1, ev_toR1, ev_toRL1, ev_nil, ev_cons, ev_opn, ev_opnN, ev_tup, ev_lst, ev_lstN, ev_new, ev_tst, ev_notT, ev_andT, ev_orT, ev_notF, ev_andF, ev_orF, ev_ifF, ev_yes, ev_iter, ev_rng1, ev_rng2, ev_rngW, ev_noP, ev_sl, ev_part, ev_next, ev_noG, ev_seq, ev_drop, ev_ret, ev_retN, ev_if, ev_asg, ev_setA, ev_nilA, ev_consA, ev_seqT, ev_seqL, ev_setN, ev_ok, ev_ioV, ev_ioU, ev_ioW, ev_owV, ev_owU, ev_own, ev_put, ev_ixOwn, ev_lenOwn, ev_setIx, ev_comp, ev_compL0, ev_compL1, ev_okC, ev_wipe1, ev_wipe0, ev_rest1, ev_rest0, ev_call, ev_callN, ev_ofr, ev_ofn, ev_ofnN, ev_mut, ev_mdl, ev_mdi, ev_io, ev_addI, ev_subI, ev_negI, ev_cmpI, ev_eqI, ev_neI, ev_eqS, ev_neS, ev_intI, ev_intB, ev_absI, ev_lenL, ev_lenT, ev_ixL, ev_ixT, ev_at0, ev_at1, ev_at2, ev_i30, ev_i31, ev_i32, ev_pk1, ev_pk2, ev_pk3, ev_pk4, ev_pkw1, ev_pkw2, ev_pkv2, ev_isI, ev_isN, ev_isB, ev_inI, ev_inN, ev_inB, ev_listT, ev_listL, ev_tupT, ev_tupL, ev_fld, ev_insAt, ev_fldOwn, ev_fldG, ev_meth, ev_make, ev_callL, ev_noLI, ev_nilL, ev_nameL, ev_lendL, ev_conL, ev_augIx, ev_putAt, ev_iadd, ev_isub, ev_revT, ev_enum, ev_zip, ev_seqDL, ev_seqDT, ev_nilM, ev_vaM, ev_owM, ev_parM, ev_app, ev_par, ev_par3, R.bind_ok, R.out_ok, Option.bind_some, List.getElem?_cons_succ, List.getElem?_cons_zero, List.set_cons_succ, List.set_cons_zero, List.length_cons, List.length_nil, Nat.reduceAdd, Nat.reduceEqDiff, List.getD_cons_succ, List.getD_cons_zero, decide_true, decide_false, Bool.and_true, Bool.and_self, and_self, true_and, List.all_cons, List.all_nil, Bool.not_true, Bool.not_false, if_true, Bool.true_eq_false, Bool.false_eq_true, if_false, e, ea]
  rfl
theorem sz3 : (3 ≤ sizeLine) = True := by
  rw [sizeLine_eq]
  decide
theorem sz10 : (10 ≤ sizeLine) = True := by
  rw [sizeLine_eq]
  decide
theorem sz8 : (8 ≤ sizeLine) = True := by
  rw [sizeLine_eq]
  decide
/-! ### what is an integer -/
theorem integer (v : Int) : F_is_integer [.int v] = .ret (.bl true) (.l []) := rfl
theorem within {v a b : Int} (h1 : a ≤ v) (h2 : v ≤ b) : F_is_within [.int v, .int a, .int b] = .ret (.bl true) (.l []) := by
  show outF false (g_is_within [.va (.int v), .va (.int a), .va (.int b)]) = _
  simp only [g_is_within, ev_name, ev_c, ev_op2, ev_op1, ev_toR1, ev_toRL1, ev_nil, ev_cons, ev_opn, ev_opnN, ev_tup, ev_lst, ev_lstN, ev_new, ev_tst, ev_notT, ev_andT, ev_orT, ev_notF, ev_andF, ev_orF, ev_ifF, ev_yes, ev_iter, ev_rng1, ev_rng2, ev_rngW, ev_noP, ev_sl, ev_part, ev_next, ev_noG, ev_seq, ev_drop, ev_ret, ev_retN, ev_if, ev_asg, ev_setA, ev_nilA, ev_consA, ev_seqT, ev_seqL, ev_setN, ev_ok, ev_ioV, ev_ioU, ev_ioW, ev_owV, ev_owU, ev_own, ev_put, ev_ixOwn, ev_lenOwn, ev_setIx, ev_comp, ev_compL0, ev_compL1, ev_okC, ev_wipe1, ev_wipe0, ev_rest1, ev_rest0, ev_call, ev_callN, ev_ofr, ev_ofn, ev_ofnN, ev_mut, ev_mdl, ev_mdi, ev_io, ev_addI, ev_subI, ev_negI, ev_cmpI, ev_eqI, ev_neI, ev_eqS, ev_neS, ev_intI, ev_intB, ev_absI, ev_lenL, ev_lenT, ev_ixL, ev_ixT, ev_at0, ev_at1, ev_at2, ev_i30, ev_i31, ev_i32, ev_pk1, ev_pk2, ev_pk3, ev_pk4, ev_pkw1, ev_pkw2, ev_pkv2, ev_isI, ev_isN, ev_isB, ev_inI, ev_inN, ev_inB, ev_listT, ev_listL, ev_tupT, ev_tupL, ev_fld, ev_insAt, ev_fldOwn, ev_fldG, ev_meth, ev_make, ev_callL, ev_noLI, ev_nilL, ev_nameL, ev_lendL, ev_conL, ev_augIx, ev_putAt, ev_iadd, ev_isub, ev_revT, ev_enum, ev_zip, ev_seqDL, ev_seqDT, ev_nilM, ev_vaM, ev_owM, ev_parM, ev_app, ev_par, ev_par3, R.bind_ok, R.out_ok, Option.bind_some, List.getElem?_cons_succ, List.getElem?_cons_zero, List.set_cons_succ, List.set_cons_zero, List.length_cons, List.length_nil, Nat.reduceAdd, Nat.reduceEqDiff, List.getD_cons_succ, List.getD_cons_zero, decide_true, decide_false, Bool.and_true, Bool.and_self, and_self, true_and, List.all_cons, List.all_nil, Bool.not_true, Bool.not_false, if_true, Bool.true_eq_false, Bool.false_eq_true, if_false, integer, decide_eq_true h1, decide_eq_true h2, Bool.not_true]
  rfl
theorem isRowT {xs : List D} {n : Int} (h : (xs.length : Int) ≤ n) : F_is_row [.tup xs, .int n] = .ret (.bl true) (.l []) := by
  have e : isiD [.tup xs, .tup [.ty "list", .ty "tuple"]] = some (.bl true) := rfl
  have h2 : decide ((xs.length : Int) ≤ n) = true := decide_eq_true h
  have s2 : (2 ≤ sizeLine) = True := by rw [sizeLine_eq]; decide
  show outF false (g_is_row [.va (.tup xs), .va (.int n)]) = _
  simp only [g_is_row, ev_name, ev_c, ev_op2, ev_op1, ev_toR1, ev_toRL1, ev_nil, ev_cons, ev_opn, ev_opnN, ev_tup, ev_lst, ev_lstN, ev_new, ev_tst, ev_notT, ev_andT, ev_orT, ev_notF, ev_andF, ev_orF, ev_ifF, ev_yes, ev_iter, ev_rng1, ev_rng2, ev_rngW, ev_noP, ev_sl, ev_part, ev_next, ev_noG, ev_seq, ev_drop, ev_ret, ev_retN, ev_if, ev_asg, ev_setA, ev_nilA, ev_consA, ev_seqT, ev_seqL, ev_setN, ev_ok, ev_ioV, ev_ioU, ev_ioW, ev_owV, ev_owU, ev_own, ev_put, ev_ixOwn, ev_lenOwn, ev_setIx, ev_comp, ev_compL0, ev_compL1, ev_okC, ev_wipe1, ev_wipe0, ev_rest1, ev_rest0, ev_call, ev_callN, ev_ofr, ev_ofn, ev_ofnN, ev_mut, ev_mdl, ev_mdi, ev_io, ev_addI, ev_subI, ev_negI, ev_cmpI, ev_eqI, ev_neI, ev_eqS, ev_neS, ev_intI, ev_intB, ev_absI, ev_lenL, ev_lenT, ev_ixL, ev_ixT, ev_at0, ev_at1, ev_at2, ev_i30, ev_i31, ev_i32, ev_pk1, ev_pk2, ev_pk3, ev_pk4, ev_pkw1, ev_pkw2, ev_pkv2, ev_isI, ev_isN, ev_isB, ev_inI, ev_inN, ev_inB, ev_listT, ev_listL, ev_tupT, ev_tupL, ev_fld, ev_insAt, ev_fldOwn, ev_fldG, ev_meth, ev_make, ev_callL, ev_noLI, ev_nilL, ev_nameL, ev_lendL, ev_conL, ev_augIx, ev_putAt, ev_iadd, ev_isub, ev_revT, ev_enum, ev_zip, ev_seqDL, ev_seqDT, ev_nilM, ev_vaM, ev_owM, ev_parM, ev_app, ev_par, ev_par3, R.bind_ok, R.out_ok, Option.bind_some, List.getElem?_cons_succ, List.getElem?_cons_zero, List.set_cons_succ, List.set_cons_zero, List.length_cons, List.length_nil, Nat.reduceAdd, Nat.reduceEqDiff, List.getD_cons_succ, List.getD_cons_zero, decide_true, decide_false, Bool.and_true, Bool.and_self, and_self, true_and, List.all_cons, List.all_nil, Bool.not_true, Bool.not_false, if_true, Bool.true_eq_false, Bool.false_eq_true, if_false, e, h2, s2]
  rfl
theorem isRowL {xs : List D} {n : Int} (h : (xs.length : Int) ≤ n) : F_is_row [.lst xs, .int n] = .ret (.bl true) (.l []) := by
  have e : isiD [.lst xs, .tup [.ty "list", .ty "tuple"]] = some (.bl true) := rfl
  have h2 : decide ((xs.length : Int) ≤ n) = true := decide_eq_true h
  have s2 : (2 ≤ sizeLine) = True := by rw [sizeLine_eq]; decide
  show outF false (g_is_row [.va (.lst xs), .va (.int n)]) = _
  simp only [g_is_row, ev_name, ev_c, ev_op2, ev_op1, ev_toR1, ev_toRL1, ev_nil, ev_cons, ev_opn, ev_opnN, ev_tup, ev_lst, ev_lstN, ev_new, ev_tst, ev_notT, ev_andT, ev_orT, ev_notF, ev_andF, ev_orF, ev_ifF, ev_yes, ev_iter, ev_rng1, ev_rng2, ev_rngW, ev_noP, ev_sl, ev_part, ev_next, ev_noG, ev_seq, ev_drop, ev_ret, ev_retN, ev_if, ev_asg, ev_setA, ev_nilA, ev_consA, ev_seqT, ev_seqL, ev_setN, ev_ok, ev_ioV, ev_ioU, ev_ioW, ev_owV, ev_owU, ev_own, ev_put, ev_ixOwn, ev_lenOwn, ev_setIx, ev_comp, ev_compL0, ev_compL1, ev_okC, ev_wipe1, ev_wipe0, ev_rest1, ev_rest0, ev_call, ev_callN, ev_ofr, ev_ofn, ev_ofnN, ev_mut, ev_mdl, ev_mdi, ev_io, ev_addI, ev_subI, ev_negI, ev_cmpI, ev_eqI, ev_neI, ev_eqS, ev_neS, ev_intI, ev_intB, ev_absI, ev_lenL, ev_lenT, ev_ixL, ev_ixT, ev_at0, ev_at1, ev_at2, ev_i30, ev_i31, ev_i32, ev_pk1, ev_pk2, ev_pk3, ev_pk4, ev_pkw1, ev_pkw2, ev_pkv2, ev_isI, ev_isN, ev_isB, ev_inI, ev_inN, ev_inB, ev_listT, ev_listL, ev_tupT, ev_tupL, ev_fld, ev_insAt, ev_fldOwn, ev_fldG, ev_meth, ev_make, ev_callL, ev_noLI, ev_nilL, ev_nameL, ev_lendL, ev_conL, ev_augIx, ev_putAt, ev_iadd, ev_isub, ev_revT, ev_enum, ev_zip, ev_seqDL, ev_seqDT, ev_nilM, ev_vaM, ev_owM, ev_parM, ev_app, ev_par, ev_par3, R.bind_ok, R.out_ok, Option.bind_some, List.getElem?_cons_succ, List.getElem?_cons_zero, List.set_cons_succ, List.set_cons_zero, List.length_cons, List.length_nil, Nat.reduceAdd, Nat.reduceEqDiff, List.getD_cons_succ, List.getD_cons_zero, decide_true, decide_false, Bool.and_true, Bool.and_self, and_self, true_and, List.all_cons, List.all_nil, Bool.not_true, Bool.not_false, if_true, Bool.true_eq_false, Bool.false_eq_true, if_false, e, h2, s2]
  rfl
end Fx

set_option Elab.async false
set_option linter.all false
set_option maxRecDepth 100000
namespace Fx
open PySem L2 PyProof.Rows
set_option exponentiation.threshold 1000
/-! ### blocks -/
def Big (n : Int) : Prop := -(2 ^ 100) ≤ n ∧ n ≤ 2 ^ 100
def blD (ns : List Int) : D := .tup (ns.map D.int)
theorem sz0 : (0 ≤ sizeLine) = True := eq_true (Nat.zero_le _)
theorem sz1 : (1 ≤ sizeLine) = True := by rw [sizeLine_eq]; decide
theorem sz2 : (2 ≤ sizeLine) = True := by rw [sizeLine_eq]; decide
theorem sz4 : (4 ≤ sizeLine) = True := by rw [sizeLine_eq]; decide
theorem sz5 : (5 ≤ sizeLine) = True := by rw [sizeLine_eq]; decide
theorem sz6 : (6 ≤ sizeLine) = True := by rw [sizeLine_eq]; decide
theorem sz9 : (9 ≤ sizeLine) = True := by rw [sizeLine_eq]; decide
theorem q9 : powD (.int 10) (.int 9) = some (.int 1000000000) := rfl
theorem q29 : powD (.int 10) (.int 29) = some (.int 100000000000000000000000000000) := rfl
theorem number {b : Nat} {P : List D} (h : Pen b P) (hb : b < 2 ^ 19) : ∃ n P', F__law_number [.lst P] = .ret (.int n) (.l P') ∧ Big n ∧ Pen (b + 3) P' := by
  obtain ⟨r1, P1, e1, a1, b1, g1⟩ := draw (m := 9) h (by omega) (by decide) (by decide)
  by_cases c : r1 = 0
  · obtain ⟨d2, P2, e2, m2, g2⟩ := pick (xs := [.int 1, .int (-1)]) g1 (by omega) (by simp) (by simp)
    obtain ⟨t, rfl, t1, t2⟩ : ∃ t, d2 = .int t ∧ -1 ≤ t ∧ t ≤ 1 := by
      simp only [List.mem_cons, List.not_mem_nil, or_false] at m2
      rcases m2 with rfl | rfl <;> exact ⟨_, rfl, by omega, by omega⟩
    obtain ⟨r3, P3, e3, a3, b3, g3⟩ := draw (m := 1000000000) g2 (by omega) (by decide) (by decide)
    have ml : mulD (.int t) (.int (100000000000000000000000000000 + r3)) = some (.int (t * (100000000000000000000000000000 + r3))) := ev_mulS (.inl ⟨by omega, by omega⟩)
    have d0 : decide (r1 = 0) = true := decide_eq_true c
    refine ⟨t * (100000000000000000000000000000 + r3), P3, ?_, ?_, g3⟩
    · show outF true (g__law_number [.io P, .un]) = _
      simp only [g__law_number, ev_name, ev_c, ev_op2, ev_op1, ev_toR1, ev_toRL1, ev_nil, ev_cons, ev_opn, ev_opnN, ev_tup, ev_lst, ev_lstN, ev_new, ev_tst, ev_notT, ev_andT, ev_orT, ev_notF, ev_andF, ev_orF, ev_ifF, ev_yes, ev_iter, ev_rng1, ev_rng2, ev_rngW, ev_noP, ev_sl, ev_part, ev_next, ev_noG, ev_seq, ev_drop, ev_ret, ev_retN, ev_if, ev_asg, ev_setA, ev_nilA, ev_consA, ev_seqT, ev_seqL, ev_setN, ev_ok, ev_ioV, ev_ioU, ev_ioW, ev_owV, ev_owU, ev_own, ev_put, ev_ixOwn, ev_lenOwn, ev_setIx, ev_comp, ev_compL0, ev_compL1, ev_okC, ev_wipe1, ev_wipe0, ev_rest1, ev_rest0, ev_call, ev_callN, ev_ofr, ev_ofn, ev_ofnN, ev_mut, ev_mdl, ev_mdi, ev_io, ev_addI, ev_subI, ev_negI, ev_cmpI, ev_eqI, ev_neI, ev_eqS, ev_neS, ev_intI, ev_intB, ev_absI, ev_lenL, ev_lenT, ev_ixL, ev_ixT, ev_at0, ev_at1, ev_at2, ev_i30, ev_i31, ev_i32, ev_pk1, ev_pk2, ev_pk3, ev_pk4, ev_pkw1, ev_pkw2, ev_pkv2, ev_isI, ev_isN, ev_isB, ev_inI, ev_inN, ev_inB, ev_listT, ev_listL, ev_tupT, ev_tupL, ev_fld, ev_insAt, ev_fldOwn, ev_fldG, ev_meth, ev_make, ev_callL, ev_noLI, ev_nilL, ev_nameL, ev_lendL, ev_conL, ev_augIx, ev_putAt, ev_iadd, ev_isub, ev_revT, ev_enum, ev_zip, ev_seqDL, ev_seqDT, ev_nilM, ev_vaM, ev_owM, ev_parM, ev_app, ev_par, ev_par3, R.bind_ok, R.out_ok, Option.bind_some, List.getElem?_cons_succ, List.getElem?_cons_zero, List.set_cons_succ, List.set_cons_zero, List.length_cons, List.length_nil, Nat.reduceAdd, Nat.reduceEqDiff, List.getD_cons_succ, List.getD_cons_zero, decide_true, decide_false, Bool.and_true, Bool.and_self, and_self, true_and, List.all_cons, List.all_nil, Bool.not_true, Bool.not_false, if_true, Bool.true_eq_false, Bool.false_eq_true, if_false, e1, e2, e3, q9, q29, ml, d0, sz2]
      rfl
    · rcases (show t = -1 ∨ t = 0 ∨ t = 1 by omega) with rfl | rfl | rfl <;> (unfold Big; omega)
  · have d0 : decide (r1 = 0) = false := decide_eq_false c
    by_cases c2 : r1 < 4
    · obtain ⟨r3, P3, e3, a3, b3, g3⟩ := draw (m := 60) g1 (by omega) (by decide) (by decide)
      have d1 : decide (r1 < 4) = true := decide_eq_true c2
      refine ⟨r3 - 30, P3, ?_, by unfold Big; omega, g3.mono (by omega)⟩
      show outF true (g__law_number [.io P, .un]) = _
      simp only [g__law_number, ev_name, ev_c, ev_op2, ev_op1, ev_toR1, ev_toRL1, ev_nil, ev_cons, ev_opn, ev_opnN, ev_tup, ev_lst, ev_lstN, ev_new, ev_tst, ev_notT, ev_andT, ev_orT, ev_notF, ev_andF, ev_orF, ev_ifF, ev_yes, ev_iter, ev_rng1, ev_rng2, ev_rngW, ev_noP, ev_sl, ev_part, ev_next, ev_noG, ev_seq, ev_drop, ev_ret, ev_retN, ev_if, ev_asg, ev_setA, ev_nilA, ev_consA, ev_seqT, ev_seqL, ev_setN, ev_ok, ev_ioV, ev_ioU, ev_ioW, ev_owV, ev_owU, ev_own, ev_put, ev_ixOwn, ev_lenOwn, ev_setIx, ev_comp, ev_compL0, ev_compL1, ev_okC, ev_wipe1, ev_wipe0, ev_rest1, ev_rest0, ev_call, ev_callN, ev_ofr, ev_ofn, ev_ofnN, ev_mut, ev_mdl, ev_mdi, ev_io, ev_addI, ev_subI, ev_negI, ev_cmpI, ev_eqI, ev_neI, ev_eqS, ev_neS, ev_intI, ev_intB, ev_absI, ev_lenL, ev_lenT, ev_ixL, ev_ixT, ev_at0, ev_at1, ev_at2, ev_i30, ev_i31, ev_i32, ev_pk1, ev_pk2, ev_pk3, ev_pk4, ev_pkw1, ev_pkw2, ev_pkv2, ev_isI, ev_isN, ev_isB, ev_inI, ev_inN, ev_inB, ev_listT, ev_listL, ev_tupT, ev_tupL, ev_fld, ev_insAt, ev_fldOwn, ev_fldG, ev_meth, ev_make, ev_callL, ev_noLI, ev_nilL, ev_nameL, ev_lendL, ev_conL, ev_augIx, ev_putAt, ev_iadd, ev_isub, ev_revT, ev_enum, ev_zip, ev_seqDL, ev_seqDT, ev_nilM, ev_vaM, ev_owM, ev_parM, ev_app, ev_par, ev_par3, R.bind_ok, R.out_ok, Option.bind_some, List.getElem?_cons_succ, List.getElem?_cons_zero, List.set_cons_succ, List.set_cons_zero, List.length_cons, List.length_nil, Nat.reduceAdd, Nat.reduceEqDiff, List.getD_cons_succ, List.getD_cons_zero, decide_true, decide_false, Bool.and_true, Bool.and_self, and_self, true_and, List.all_cons, List.all_nil, Bool.not_true, Bool.not_false, if_true, Bool.true_eq_false, Bool.false_eq_true, if_false, e1, e3, d0, d1]
      rfl
    · obtain ⟨r3, P3, e3, a3, b3, g3⟩ := draw (m := 13) g1 (by omega) (by decide) (by decide)
      have d1 : decide (r1 < 4) = false := decide_eq_false c2
      refine ⟨r3 - 6, P3, ?_, by unfold Big; omega, g3.mono (by omega)⟩
      show outF true (g__law_number [.io P, .un]) = _
      simp only [g__law_number, ev_name, ev_c, ev_op2, ev_op1, ev_toR1, ev_toRL1, ev_nil, ev_cons, ev_opn, ev_opnN, ev_tup, ev_lst, ev_lstN, ev_new, ev_tst, ev_notT, ev_andT, ev_orT, ev_notF, ev_andF, ev_orF, ev_ifF, ev_yes, ev_iter, ev_rng1, ev_rng2, ev_rngW, ev_noP, ev_sl, ev_part, ev_next, ev_noG, ev_seq, ev_drop, ev_ret, ev_retN, ev_if, ev_asg, ev_setA, ev_nilA, ev_consA, ev_seqT, ev_seqL, ev_setN, ev_ok, ev_ioV, ev_ioU, ev_ioW, ev_owV, ev_owU, ev_own, ev_put, ev_ixOwn, ev_lenOwn, ev_setIx, ev_comp, ev_compL0, ev_compL1, ev_okC, ev_wipe1, ev_wipe0, ev_rest1, ev_rest0, ev_call, ev_callN, ev_ofr, ev_ofn, ev_ofnN, ev_mut, ev_mdl, ev_mdi, ev_io, ev_addI, ev_subI, ev_negI, ev_cmpI, ev_eqI, ev_neI, ev_eqS, ev_neS, ev_intI, ev_intB, ev_absI, ev_lenL, ev_lenT, ev_ixL, ev_ixT, ev_at0, ev_at1, ev_at2, ev_i30, ev_i31, ev_i32, ev_pk1, ev_pk2, ev_pk3, ev_pk4, ev_pkw1, ev_pkw2, ev_pkv2, ev_isI, ev_isN, ev_isB, ev_inI, ev_inN, ev_inB, ev_listT, ev_listL, ev_tupT, ev_tupL, ev_fld, ev_insAt, ev_fldOwn, ev_fldG, ev_meth, ev_make, ev_callL, ev_noLI, ev_nilL, ev_nameL, ev_lendL, ev_conL, ev_augIx, ev_putAt, ev_iadd, ev_isub, ev_revT, ev_enum, ev_zip, ev_seqDL, ev_seqDT, ev_nilM, ev_vaM, ev_owM, ev_parM, ev_app, ev_par, ev_par3, R.bind_ok, R.out_ok, Option.bind_some, List.getElem?_cons_succ, List.getElem?_cons_zero, List.set_cons_succ, List.set_cons_zero, List.length_cons, List.length_nil, Nat.reduceAdd, Nat.reduceEqDiff, List.getD_cons_succ, List.getD_cons_zero, decide_true, decide_false, Bool.and_true, Bool.and_self, and_self, true_and, List.all_cons, List.all_nil, Bool.not_true, Bool.not_false, if_true, Bool.true_eq_false, Bool.false_eq_true, if_false, e1, e3, d0, d1]
      rfl
theorem ints_of : ∀ {ys : List D}, (∀ y ∈ ys, ∃ n, y = .int n ∧ Big n) → ∃ ns : List Int, ys = ns.map D.int ∧ ∀ n ∈ ns, Big n
  | [], _ => ⟨[], rfl, fun n h => by cases h⟩
  | y :: ys, h => by
    obtain ⟨n, rfl, hn⟩ := h y List.mem_cons_self
    obtain ⟨ns, rfl, hs⟩ := ints_of (ys := ys) fun z hz => h z (List.mem_cons_of_mem _ hz)
    exact ⟨n :: ns, rfl, fun m hm => by
      rcases List.mem_cons.mp hm with rfl | hm
      · exact hn
      · exact hs m hm⟩
theorem rng_small {w : Int} (w6 : w ≤ 5000) : ((rngD 0 w).length < sizeLine) = True := by
  rw [rngD_length, sizeLine_eq]
  exact eq_true (by omega)
theorem sm_small {w : Int} (w0 : 0 ≤ w) (w6 : w ≤ 5000) : sm62 w = true := by
  unfold sm62
  rw [decide_eq_true (by omega)]
/-- numbers drawn one by one, within a def whose pen stands at slot 0 and whose own name at slot j -/
theorem numbersL {b : Nat} {P : List D} {w : Int} {j : Nat} {s : List Sl} {y0 : Sl} (h : Pen b P) (w0 : 0 ≤ w) (w6 : w ≤ 6) (hb : b < 2 ^ 18) (hj : s[j]? = some y0) (hp : Pl y0) (h0 : s[0]? = some (.io (.l P))) (nj : j ≠ 0) :
    ∃ (ns : List Int) (P' : List D), compL [j] (setA j) yesT (callIoF F__law_number 1 0 nilF) (rngD 0 w) s = .ok (ns.map D.int) ((s.set 0 (.io (.l P'))).set j (if w = 0 then y0 else .va (.int (w - 1)))) ∧ ns.length = w.toNat ∧ (∀ n ∈ ns, Big n) ∧ Pen (b + 18) P' := by
  have hlt : j < s.length := (List.getElem?_eq_some_iff.mp hj).1
  have hlt0 : 0 < s.length := by omega
  obtain ⟨ys, s', e, hl, hY, P', rfl, hP⟩ := compL_run (vs := [j]) (a := setA j) (u := yesT) (f := callIoF F__law_number 1 0 nilF)
    (I := fun m s' => ∃ P', s' = (s.set 0 (.io (.l P'))).set j (if m = 0 then y0 else .va (.int ((m : Int) - 1))) ∧ Pen (b + 3 * m) P') (Y := fun _ y => ∃ n, y = .int n ∧ Big n) (rngD 0 w) 0 s ⟨P, by
      refine List.ext_getElem? fun i => ?_
      by_cases ej : j = i
      · subst ej; rw [List.getElem?_set_self (by rw [List.length_set]; exact hlt), hj]; rfl
      · rw [List.getElem?_set_ne ej]
        by_cases e0 : 0 = i
        · subst e0; rw [List.getElem?_set_self hlt0, h0]
        · rw [List.getElem?_set_ne e0], h⟩ fun m d s' e i => by
      obtain ⟨P', rfl, hP⟩ := i
      have hm : m < 6 := by
        have := (List.getElem?_eq_some_iff.mp e).1
        rw [rngD_length] at this
        omega
      obtain ⟨n, P2, e2, hn, h2'⟩ := number hP (by omega)
      have := rngD_get e
      subst this
      refine ⟨(s.set 0 (.io (.l P'))).set j (.va (.int (0 + (m : Int)))), (s.set 0 (.io (.l P'))).set j (.va (.int (0 + (m : Int)))), (s.set 0 (.io (.l P2))).set j (.va (.int (0 + (m : Int)))), .int n, ?_, rfl, ?_, ⟨n, rfl, hn⟩, P2, ?_, h2'.mono (by omega)⟩
      · show setA j _ (((s.set 0 _).set j _).set j .un) = _
        rw [List.set_set, ev_setA, ev_ok, List.getElem?_set_self (by rw [List.length_set]; exact hlt)]
        dsimp only
        rw [List.set_set]
        rfl
      · have g0 : ((s.set 0 (.io (.l P'))).set j (.va (.int (0 + (m : Int)))))[0]? = some (.io (.l P')) := by rw [List.getElem?_set_ne nj, List.getElem?_set_self hlt0]
        rw [ev_io, ev_mut, g0]
        dsimp only
        rw [if_pos rfl, ev_nil, R.bind_ok]
        dsimp only [List.length_nil]
        rw [if_pos rfl, g0]
        dsimp only
        rw [ev_mdl, e2, ev_ofr, List.set_comm _ _ nj, List.set_set]
      · rw [if_neg (by omega), show ((0 + m + 1 : Nat) : Int) - 1 = 0 + (m : Int) by omega]
  obtain ⟨ns, rfl, hs⟩ := ints_of fun y hy => by
    obtain ⟨j, hj, e⟩ := List.getElem_of_mem hy
    exact hY j y (List.getElem?_eq_some_iff.mpr ⟨hj, e⟩)
  have hlen : (rngD 0 w).length = w.toNat := by rw [rngD_length]; congr 1; omega
  refine ⟨ns, P', ?_, by rw [List.length_map, hlen] at hl; exact hl, hs, hP.mono (by rw [hlen]; omega)⟩
  rw [e, hlen]
  by_cases c : w = 0
  · subst c; rfl
  · rw [if_neg (by omega), if_neg c, show ((0 + w.toNat : Nat) : Int) - 1 = w - 1 by omega]
theorem block {b : Nat} {P : List D} {w : Int} (h : Pen b P) (w0 : 0 ≤ w) (w6 : w ≤ 6) (hb : b < 2 ^ 18) : ∃ (ns : List Int) (P' : List D), F__law_block [.lst P, .int w] = .ret (blD ns) (.l P') ∧ ns.length = w.toNat ∧ (∀ n ∈ ns, Big n) ∧ Pen (b + 18) P' := by
  obtain ⟨ns, P', e, hl, hs, hP⟩ := numbersL (j := 2) (s := [.io (.l P), .va (.int w), .un]) h w0 w6 hb rfl Pl.un rfl (by decide)
  refine ⟨ns, P', ?_, hl, hs, hP⟩
  show outF true (g__law_block [.io P, .va (.int w), .un]) = _
  simp only [g__law_block, ev_name, ev_c, ev_op2, ev_op1, ev_toR1, ev_toRL1, ev_nil, ev_cons, ev_opn, ev_opnN, ev_tup, ev_lst, ev_lstN, ev_new, ev_tst, ev_notT, ev_andT, ev_orT, ev_notF, ev_andF, ev_orF, ev_ifF, ev_yes, ev_iter, ev_rng1, ev_rng2, ev_rngW, ev_noP, ev_sl, ev_part, ev_next, ev_noG, ev_seq, ev_drop, ev_ret, ev_retN, ev_if, ev_asg, ev_setA, ev_nilA, ev_consA, ev_seqT, ev_seqL, ev_setN, ev_ok, ev_ioV, ev_ioU, ev_ioW, ev_owV, ev_owU, ev_own, ev_put, ev_ixOwn, ev_lenOwn, ev_setIx, ev_comp, ev_compL0, ev_compL1, ev_okC, ev_wipe1, ev_wipe0, ev_rest1, ev_rest0, ev_call, ev_callN, ev_ofr, ev_ofn, ev_ofnN, ev_mut, ev_mdl, ev_mdi, ev_io, ev_addI, ev_subI, ev_negI, ev_cmpI, ev_eqI, ev_neI, ev_eqS, ev_neS, ev_intI, ev_intB, ev_absI, ev_lenL, ev_lenT, ev_ixL, ev_ixT, ev_at0, ev_at1, ev_at2, ev_i30, ev_i31, ev_i32, ev_pk1, ev_pk2, ev_pk3, ev_pk4, ev_pkw1, ev_pkw2, ev_pkv2, ev_isI, ev_isN, ev_isB, ev_inI, ev_inN, ev_inB, ev_listT, ev_listL, ev_tupT, ev_tupL, ev_fld, ev_insAt, ev_fldOwn, ev_fldG, ev_meth, ev_make, ev_callL, ev_noLI, ev_nilL, ev_nameL, ev_lendL, ev_conL, ev_augIx, ev_putAt, ev_iadd, ev_isub, ev_revT, ev_enum, ev_zip, ev_seqDL, ev_seqDT, ev_nilM, ev_vaM, ev_owM, ev_parM, ev_app, ev_par, ev_par3, R.bind_ok, R.out_ok, Option.bind_some, List.getElem?_cons_succ, List.getElem?_cons_zero, List.set_cons_succ, List.set_cons_zero, List.length_cons, List.length_nil, Nat.reduceAdd, Nat.reduceEqDiff, List.getD_cons_succ, List.getD_cons_zero, decide_true, decide_false, Bool.and_true, Bool.and_self, and_self, true_and, List.all_cons, List.all_nil, Bool.not_true, Bool.not_false, if_true, Bool.true_eq_false, Bool.false_eq_true, if_false, sm_small w0 (show w ≤ 5000 by omega), rng_small (show w ≤ 5000 by omega), e]
  rfl
/-! ### steps -/
def pairD (p : Int × Int) : D := .tup [.int p.1, .int p.2]
structure Stp where
  t : Int
  ps : List (Int × Int)
  a : Int
  o : Int
def Stp.d (s : Stp) : D := .tup [.int s.t, .tup (s.ps.map pairD), .int s.a, .int s.o]
structure PsOk (w t : Int) (m : Int) (ps : List (Int × Int)) : Prop where
  pr : ∀ p ∈ ps, 0 ≤ p.1 ∧ p.1 < m ∧ p.1 ≠ t ∧ -9 ≤ p.2 ∧ p.2 ≤ 9 ∧ p.2 ≠ 0
  asc : ps.Pairwise (fun p q => p.1 < q.1)
structure Stp.Ok (w : Int) (s : Stp) : Prop where
  t0 : 0 ≤ s.t
  t1 : s.t < w
  p : PsOk w s.t w s.ps
  len : (s.ps.length : Int) ≤ w - 1
  a0 : -99 ≤ s.a
  a1 : s.a ≤ 99
  o0 : 1 ≤ s.o
  o1 : s.o ≤ 9
theorem nat_cast_lt {n : Nat} {j : Int} (h : j < n) (h0 : 0 ≤ j) : j.toNat < n := by omega
theorem step {b : Nat} {P : List D} {w : Int} (h : Pen b P) (w1 : 1 ≤ w) (w6 : w ≤ 6) (hb : b < 2 ^ 18) : ∃ (s : Stp) (P' : List D), F__law_step [.lst P, .int w] = .ret s.d (.l P') ∧ s.Ok w ∧ Pen (b + 20) P' := by
  obtain ⟨t, P1, e1, t0, t1, g1⟩ := draw (m := w) h (by omega) (by omega) (by omega)
  obtain ⟨wy, P2, e2, y0, y1, g2⟩ := draw (m := 6) g1 (by omega) (by decide) (by decide)
  have hsl : (0 < sizeLine) = True := by rw [sizeLine_eq]; decide
  obtain ⟨s', e3, ps, P3, y5, rfl, q5, hP3, hps, hlen⟩ := forL_run (a := setA 5) (G1 := g__law_step_b1)
    (I := fun m s' => ∃ (ps : List (Int × Int)) (P' : List D) (y5 : Sl), s' = [.io P', .va (.int w), .va (.int t), .ow (.l (ps.map pairD)), .va (.int wy), y5, .un, .un] ∧ Pl y5 ∧ Pen (b + 2 + 2 * m) P' ∧ PsOk w t m ps ∧ (ps.length : Int) ≤ m - (if t < m then 1 else 0))
    (rngD 0 w) 0 [.io P2, .va (.int w), .va (.int t), .ow (.l []), .va (.int wy), .un, .un, .un] ⟨[], P2, .un, rfl, Pl.un, g2, ⟨(fun p hp => by cases hp), .nil⟩, by rw [if_neg (by omega)]; decide⟩ fun m d s' e i => by
      obtain ⟨ps, P', y5, rfl, q5, hP, hps, hlen⟩ := i
      have hm : m < 6 ∧ (m : Int) < w := by
        have := (List.getElem?_eq_some_iff.mp e).1
        rw [rngD_length] at this
        omega
      have := rngD_get e
      subst this
      have e0 : ((0 + m : Nat) : Int) = (m : Int) := by omega
      have ez : (0 : Int) + (m : Int) = m := by omega
      rw [e0] at hps hlen
      rw [ez]
      have hup : PsOk w t ((0 + m + 1 : Nat) : Int) ps := ⟨fun p hp => by have := hps.pr p hp; omega, hps.asc⟩
      refine ⟨[.io P', .va (.int w), .va (.int t), .ow (.l (ps.map pairD)), .va (.int wy), .va (.int m), .un, .un], ?_⟩
      have es : setA 5 (.int m) [.io P', .va (.int w), .va (.int t), .ow (.l (ps.map pairD)), .va (.int wy), y5, .un, .un] = some [.io P', .va (.int w), .va (.int t), .ow (.l (ps.map pairD)), .va (.int wy), .va (.int m), .un, .un] := by
        simp only [ev_name, ev_c, ev_op2, ev_op1, ev_toR1, ev_toRL1, ev_nil, ev_cons, ev_opn, ev_opnN, ev_tup, ev_lst, ev_lstN, ev_new, ev_tst, ev_notT, ev_andT, ev_orT, ev_notF, ev_andF, ev_orF, ev_ifF, ev_yes, ev_iter, ev_rng1, ev_rng2, ev_rngW, ev_noP, ev_sl, ev_part, ev_next, ev_noG, ev_seq, ev_drop, ev_ret, ev_retN, ev_if, ev_asg, ev_setA, ev_nilA, ev_consA, ev_seqT, ev_seqL, ev_setN, ev_ok, ev_ioV, ev_ioU, ev_ioW, ev_owV, ev_owU, ev_own, ev_put, ev_ixOwn, ev_lenOwn, ev_setIx, ev_comp, ev_compL0, ev_compL1, ev_okC, ev_wipe1, ev_wipe0, ev_rest1, ev_rest0, ev_call, ev_callN, ev_ofr, ev_ofn, ev_ofnN, ev_mut, ev_mdl, ev_mdi, ev_io, ev_addI, ev_subI, ev_negI, ev_cmpI, ev_eqI, ev_neI, ev_eqS, ev_neS, ev_intI, ev_intB, ev_absI, ev_lenL, ev_lenT, ev_ixL, ev_ixT, ev_at0, ev_at1, ev_at2, ev_i30, ev_i31, ev_i32, ev_pk1, ev_pk2, ev_pk3, ev_pk4, ev_pkw1, ev_pkw2, ev_pkv2, ev_isI, ev_isN, ev_isB, ev_inI, ev_inN, ev_inB, ev_listT, ev_listL, ev_tupT, ev_tupL, ev_fld, ev_insAt, ev_fldOwn, ev_fldG, ev_meth, ev_make, ev_callL, ev_noLI, ev_nilL, ev_nameL, ev_lendL, ev_conL, ev_augIx, ev_putAt, ev_iadd, ev_isub, ev_revT, ev_enum, ev_zip, ev_seqDL, ev_seqDT, ev_nilM, ev_vaM, ev_owM, ev_parM, ev_app, ev_par, ev_par3, R.bind_ok, R.out_ok, Option.bind_some, List.getElem?_cons_succ, List.getElem?_cons_zero, List.set_cons_succ, List.set_cons_zero, List.length_cons, List.length_nil, Nat.reduceAdd, Nat.reduceEqDiff, List.getD_cons_succ, List.getD_cons_zero, decide_true, decide_false, Bool.and_true, Bool.and_self, and_self, true_and, List.all_cons, List.all_nil, Bool.not_true, Bool.not_false, if_true, Bool.true_eq_false, Bool.false_eq_true, if_false, q5.1]
      rw [es]
      by_cases c1 : (m : Int) = t
      · have d1 : decide ((m : Int) = t) = true := decide_eq_true c1
        refine ⟨[.io P', .va (.int w), .va (.int t), .ow (.l (ps.map pairD)), .va (.int wy), .va (.int m), .un, .un], rfl, .inl ?_, ps, P', .va (.int m), rfl, Pl.va, hP.mono (by omega), hup, ?_⟩
        · simp only [g__law_step_b1, ev_name, ev_c, ev_op2, ev_op1, ev_toR1, ev_toRL1, ev_nil, ev_cons, ev_opn, ev_opnN, ev_tup, ev_lst, ev_lstN, ev_new, ev_tst, ev_notT, ev_andT, ev_orT, ev_notF, ev_andF, ev_orF, ev_ifF, ev_yes, ev_iter, ev_rng1, ev_rng2, ev_rngW, ev_noP, ev_sl, ev_part, ev_next, ev_noG, ev_seq, ev_drop, ev_ret, ev_retN, ev_if, ev_asg, ev_setA, ev_nilA, ev_consA, ev_seqT, ev_seqL, ev_setN, ev_ok, ev_ioV, ev_ioU, ev_ioW, ev_owV, ev_owU, ev_own, ev_put, ev_ixOwn, ev_lenOwn, ev_setIx, ev_comp, ev_compL0, ev_compL1, ev_okC, ev_wipe1, ev_wipe0, ev_rest1, ev_rest0, ev_call, ev_callN, ev_ofr, ev_ofn, ev_ofnN, ev_mut, ev_mdl, ev_mdi, ev_io, ev_addI, ev_subI, ev_negI, ev_cmpI, ev_eqI, ev_neI, ev_eqS, ev_neS, ev_intI, ev_intB, ev_absI, ev_lenL, ev_lenT, ev_ixL, ev_ixT, ev_at0, ev_at1, ev_at2, ev_i30, ev_i31, ev_i32, ev_pk1, ev_pk2, ev_pk3, ev_pk4, ev_pkw1, ev_pkw2, ev_pkv2, ev_isI, ev_isN, ev_isB, ev_inI, ev_inN, ev_inB, ev_listT, ev_listL, ev_tupT, ev_tupL, ev_fld, ev_insAt, ev_fldOwn, ev_fldG, ev_meth, ev_make, ev_callL, ev_noLI, ev_nilL, ev_nameL, ev_lendL, ev_conL, ev_augIx, ev_putAt, ev_iadd, ev_isub, ev_revT, ev_enum, ev_zip, ev_seqDL, ev_seqDT, ev_nilM, ev_vaM, ev_owM, ev_parM, ev_app, ev_par, ev_par3, R.bind_ok, R.out_ok, Option.bind_some, List.getElem?_cons_succ, List.getElem?_cons_zero, List.set_cons_succ, List.set_cons_zero, List.length_cons, List.length_nil, Nat.reduceAdd, Nat.reduceEqDiff, List.getD_cons_succ, List.getD_cons_zero, decide_true, decide_false, Bool.and_true, Bool.and_self, and_self, true_and, List.all_cons, List.all_nil, Bool.not_true, Bool.not_false, if_true, Bool.true_eq_false, Bool.false_eq_true, if_false, d1]
        · rw [if_neg (by omega)] at hlen
          rw [if_pos (by omega)]
          omega
      · have d1 : decide ((m : Int) = t) = false := decide_eq_false c1
        obtain ⟨r, P4, e4, a4, b4, g4⟩ := draw (m := 3) hP (by omega) (by decide) (by decide)
        by_cases c2 : 0 < r
        · have d2 : decide (0 < r) = true := decide_eq_true c2
          obtain ⟨d5, P5, e5, m5, g5⟩ := pick (xs := [.int 1, .int (-1), .int 2, .int (-2), .int 4, .int (-7), .int 3, .int 9, .int (-9)]) g4 (by omega) (by simp) (by simp)
          obtain ⟨x, rfl, x1, x2, x3⟩ : ∃ x, d5 = .int x ∧ -9 ≤ x ∧ x ≤ 9 ∧ x ≠ 0 := by
            simp only [List.mem_cons, List.not_mem_nil, or_false] at m5
            rcases m5 with rfl | rfl | rfl | rfl | rfl | rfl | rfl | rfl | rfl <;> exact ⟨_, rfl, by omega, by omega, by omega⟩
          have hl6 : ((ps.map pairD).length < sizeLine) = True := by
            rw [List.length_map, sizeLine_eq]
            refine eq_true ?_
            split at hlen <;> omega
          refine ⟨[.io P5, .va (.int w), .va (.int t), .ow (.l ((ps ++ [((m : Int), x)]).map pairD)), .va (.int wy), .va (.int m), .un, .un], rfl, .inl ?_, ps ++ [((m : Int), x)], P5, .va (.int m), rfl, Pl.va, g5.mono (by omega), ⟨fun p hp => ?_, ?_⟩, ?_⟩
          · simp only [g__law_step_b1, ev_name, ev_c, ev_op2, ev_op1, ev_toR1, ev_toRL1, ev_nil, ev_cons, ev_opn, ev_opnN, ev_tup, ev_lst, ev_lstN, ev_new, ev_tst, ev_notT, ev_andT, ev_orT, ev_notF, ev_andF, ev_orF, ev_ifF, ev_yes, ev_iter, ev_rng1, ev_rng2, ev_rngW, ev_noP, ev_sl, ev_part, ev_next, ev_noG, ev_seq, ev_drop, ev_ret, ev_retN, ev_if, ev_asg, ev_setA, ev_nilA, ev_consA, ev_seqT, ev_seqL, ev_setN, ev_ok, ev_ioV, ev_ioU, ev_ioW, ev_owV, ev_owU, ev_own, ev_put, ev_ixOwn, ev_lenOwn, ev_setIx, ev_comp, ev_compL0, ev_compL1, ev_okC, ev_wipe1, ev_wipe0, ev_rest1, ev_rest0, ev_call, ev_callN, ev_ofr, ev_ofn, ev_ofnN, ev_mut, ev_mdl, ev_mdi, ev_io, ev_addI, ev_subI, ev_negI, ev_cmpI, ev_eqI, ev_neI, ev_eqS, ev_neS, ev_intI, ev_intB, ev_absI, ev_lenL, ev_lenT, ev_ixL, ev_ixT, ev_at0, ev_at1, ev_at2, ev_i30, ev_i31, ev_i32, ev_pk1, ev_pk2, ev_pk3, ev_pk4, ev_pkw1, ev_pkw2, ev_pkv2, ev_isI, ev_isN, ev_isB, ev_inI, ev_inN, ev_inB, ev_listT, ev_listL, ev_tupT, ev_tupL, ev_fld, ev_insAt, ev_fldOwn, ev_fldG, ev_meth, ev_make, ev_callL, ev_noLI, ev_nilL, ev_nameL, ev_lendL, ev_conL, ev_augIx, ev_putAt, ev_iadd, ev_isub, ev_revT, ev_enum, ev_zip, ev_seqDL, ev_seqDT, ev_nilM, ev_vaM, ev_owM, ev_parM, ev_app, ev_par, ev_par3, R.bind_ok, R.out_ok, Option.bind_some, List.getElem?_cons_succ, List.getElem?_cons_zero, List.set_cons_succ, List.set_cons_zero, List.length_cons, List.length_nil, Nat.reduceAdd, Nat.reduceEqDiff, List.getD_cons_succ, List.getD_cons_zero, decide_true, decide_false, Bool.and_true, Bool.and_self, and_self, true_and, List.all_cons, List.all_nil, Bool.not_true, Bool.not_false, if_true, Bool.true_eq_false, Bool.false_eq_true, if_false, ev_app, d1, d2, e4, e5, sz9, sz2, hl6]
            rw [List.map_append]
            rfl
          · rcases List.mem_append.mp hp with hp | hp
            · exact hup.pr p hp
            · rw [List.mem_singleton.mp hp]
              exact ⟨by show (0 : Int) ≤ m; omega, by show (m : Int) < _; omega, c1, x1, x2, x3⟩
          · refine List.pairwise_append.mpr ⟨hps.asc, List.pairwise_singleton _ _, fun p hp q hq => ?_⟩
            rw [List.mem_singleton.mp hq]
            exact (hps.pr p hp).2.1
          · rw [List.length_append, List.length_singleton]
            split at hlen
            · rw [if_pos (by omega)]; omega
            · split <;> omega
        · have d2 : decide (0 < r) = false := decide_eq_false c2
          refine ⟨[.io P4, .va (.int w), .va (.int t), .ow (.l (ps.map pairD)), .va (.int wy), .va (.int m), .un, .un], rfl, .inl ?_, ps, P4, .va (.int m), rfl, Pl.va, g4.mono (by omega), hup, ?_⟩
          · simp only [g__law_step_b1, ev_name, ev_c, ev_op2, ev_op1, ev_toR1, ev_toRL1, ev_nil, ev_cons, ev_opn, ev_opnN, ev_tup, ev_lst, ev_lstN, ev_new, ev_tst, ev_notT, ev_andT, ev_orT, ev_notF, ev_andF, ev_orF, ev_ifF, ev_yes, ev_iter, ev_rng1, ev_rng2, ev_rngW, ev_noP, ev_sl, ev_part, ev_next, ev_noG, ev_seq, ev_drop, ev_ret, ev_retN, ev_if, ev_asg, ev_setA, ev_nilA, ev_consA, ev_seqT, ev_seqL, ev_setN, ev_ok, ev_ioV, ev_ioU, ev_ioW, ev_owV, ev_owU, ev_own, ev_put, ev_ixOwn, ev_lenOwn, ev_setIx, ev_comp, ev_compL0, ev_compL1, ev_okC, ev_wipe1, ev_wipe0, ev_rest1, ev_rest0, ev_call, ev_callN, ev_ofr, ev_ofn, ev_ofnN, ev_mut, ev_mdl, ev_mdi, ev_io, ev_addI, ev_subI, ev_negI, ev_cmpI, ev_eqI, ev_neI, ev_eqS, ev_neS, ev_intI, ev_intB, ev_absI, ev_lenL, ev_lenT, ev_ixL, ev_ixT, ev_at0, ev_at1, ev_at2, ev_i30, ev_i31, ev_i32, ev_pk1, ev_pk2, ev_pk3, ev_pk4, ev_pkw1, ev_pkw2, ev_pkv2, ev_isI, ev_isN, ev_isB, ev_inI, ev_inN, ev_inB, ev_listT, ev_listL, ev_tupT, ev_tupL, ev_fld, ev_insAt, ev_fldOwn, ev_fldG, ev_meth, ev_make, ev_callL, ev_noLI, ev_nilL, ev_nameL, ev_lendL, ev_conL, ev_augIx, ev_putAt, ev_iadd, ev_isub, ev_revT, ev_enum, ev_zip, ev_seqDL, ev_seqDT, ev_nilM, ev_vaM, ev_owM, ev_parM, ev_app, ev_par, ev_par3, R.bind_ok, R.out_ok, Option.bind_some, List.getElem?_cons_succ, List.getElem?_cons_zero, List.set_cons_succ, List.set_cons_zero, List.length_cons, List.length_nil, Nat.reduceAdd, Nat.reduceEqDiff, List.getD_cons_succ, List.getD_cons_zero, decide_true, decide_false, Bool.and_true, Bool.and_self, and_self, true_and, List.all_cons, List.all_nil, Bool.not_true, Bool.not_false, if_true, Bool.true_eq_false, Bool.false_eq_true, if_false, d1, d2, e4]
          · split at hlen
            · rw [if_pos (by omega)]; omega
            · split <;> omega
  have hrl : (rngD 0 w).length = w.toNat := by rw [rngD_length]; congr 1; omega
  rw [hrl] at hP3 hps hlen
  have ew : ((0 + w.toNat : Nat) : Int) = w := by omega
  rw [ew] at hps hlen
  rw [if_pos t1] at hlen
  obtain ⟨r6, P6, e6, a6, b6, g6⟩ := draw (m := 199) hP3 (by omega) (by decide) (by decide)
  obtain ⟨d7, P7, e7, m7, g7⟩ := pick (xs := [.int 0, .int 0, .int 1, .int (-1), .int (r6 - 99)]) g6 (by omega) (by simp) (by simp)
  obtain ⟨a, rfl, al, au⟩ : ∃ x, d7 = .int x ∧ -99 ≤ x ∧ x ≤ 99 := by
    simp only [List.mem_cons, List.not_mem_nil, or_false] at m7
    rcases m7 with rfl | rfl | rfl | rfl | rfl <;> exact ⟨_, rfl, by omega, by omega⟩
  obtain ⟨r8, P8, e8, a8, b8, g8⟩ := draw (m := 9) g7 (by omega) (by decide) (by decide)
  obtain ⟨d9, P9, e9, m9, g9⟩ := pick (xs := [.int 2, .int 2, .int 1, .int 3, .int (1 + r8)]) g8 (by omega) (by simp) (by simp)
  obtain ⟨o, rfl, ol, ou⟩ : ∃ x, d9 = .int x ∧ 1 ≤ x ∧ x ≤ 9 := by
    simp only [List.mem_cons, List.not_mem_nil, or_false] at m9
    rcases m9 with rfl | rfl | rfl | rfl | rfl <;> exact ⟨_, rfl, by omega, by omega⟩
  have es : ∀ A o' : Int, -99 ≤ A → A ≤ 99 → 1 ≤ o' → o' ≤ 9 → Stp.Ok w ⟨t, ps, A, o'⟩ := fun A o' h1 h2 h3 h4 => ⟨t0, t1, hps, hlen, h1, h2, h3, h4⟩
  have pm : ∀ X : List Sl, putA [2, 3, 4] [.va (.int t), .ow [], .va (.int wy)] [.io P2, .va (.int w), .un, .un, .un, .un, .un, .un] = some [.io P2, .va (.int w), .va (.int t), .ow (.l []), .va (.int wy), .un, .un, .un] := fun _ => rfl
  refine ⟨⟨t, ps, if wy = 0 then 99 else a, if wy = 1 then 9 else o⟩, P9, ?_, ?_, g9.mono (by omega)⟩
  · show outF true (g__law_step [.io P, .va (.int w), .un, .un, .un, .un, .un, .un]) = _
    rw [show g__law_step = (seqG _ (seqG (forG _ (setA 5) g__law_step_b1) _)) from rfl]
    simp only [ev_name, ev_c, ev_op2, ev_op1, ev_toR1, ev_toRL1, ev_nil, ev_cons, ev_opn, ev_opnN, ev_tup, ev_lst, ev_lstN, ev_new, ev_tst, ev_notT, ev_andT, ev_orT, ev_notF, ev_andF, ev_orF, ev_ifF, ev_yes, ev_iter, ev_rng1, ev_rng2, ev_rngW, ev_noP, ev_sl, ev_part, ev_next, ev_noG, ev_seq, ev_drop, ev_ret, ev_retN, ev_if, ev_asg, ev_setA, ev_nilA, ev_consA, ev_seqT, ev_seqL, ev_setN, ev_ok, ev_ioV, ev_ioU, ev_ioW, ev_owV, ev_owU, ev_own, ev_put, ev_ixOwn, ev_lenOwn, ev_setIx, ev_comp, ev_compL0, ev_compL1, ev_okC, ev_wipe1, ev_wipe0, ev_rest1, ev_rest0, ev_call, ev_callN, ev_ofr, ev_ofn, ev_ofnN, ev_mut, ev_mdl, ev_mdi, ev_io, ev_addI, ev_subI, ev_negI, ev_cmpI, ev_eqI, ev_neI, ev_eqS, ev_neS, ev_intI, ev_intB, ev_absI, ev_lenL, ev_lenT, ev_ixL, ev_ixT, ev_at0, ev_at1, ev_at2, ev_i30, ev_i31, ev_i32, ev_pk1, ev_pk2, ev_pk3, ev_pk4, ev_pkw1, ev_pkw2, ev_pkv2, ev_isI, ev_isN, ev_isB, ev_inI, ev_inN, ev_inB, ev_listT, ev_listL, ev_tupT, ev_tupL, ev_fld, ev_insAt, ev_fldOwn, ev_fldG, ev_meth, ev_make, ev_callL, ev_noLI, ev_nilL, ev_nameL, ev_lendL, ev_conL, ev_augIx, ev_putAt, ev_iadd, ev_isub, ev_revT, ev_enum, ev_zip, ev_seqDL, ev_seqDT, ev_nilM, ev_vaM, ev_owM, ev_parM, ev_app, ev_par, ev_par3, R.bind_ok, R.out_ok, Option.bind_some, List.getElem?_cons_succ, List.getElem?_cons_zero, List.set_cons_succ, List.set_cons_zero, List.length_cons, List.length_nil, Nat.reduceAdd, Nat.reduceEqDiff, List.getD_cons_succ, List.getD_cons_zero, decide_true, decide_false, Bool.and_true, Bool.and_self, and_self, true_and, List.all_cons, List.all_nil, Bool.not_true, Bool.not_false, if_true, Bool.true_eq_false, Bool.false_eq_true, if_false, ev_for, e1, e2, sz0, sm_small (show 0 ≤ w by omega) (show w ≤ 5000 by omega), pm []]
    rw [e3]
    by_cases c1 : wy = 0
    · have d1 : decide (wy = 0) = true := decide_eq_true c1
      have d2 : decide (wy = 1) = false := decide_eq_false (by omega)
      simp only [ev_name, ev_c, ev_op2, ev_op1, ev_toR1, ev_toRL1, ev_nil, ev_cons, ev_opn, ev_opnN, ev_tup, ev_lst, ev_lstN, ev_new, ev_tst, ev_notT, ev_andT, ev_orT, ev_notF, ev_andF, ev_orF, ev_ifF, ev_yes, ev_iter, ev_rng1, ev_rng2, ev_rngW, ev_noP, ev_sl, ev_part, ev_next, ev_noG, ev_seq, ev_drop, ev_ret, ev_retN, ev_if, ev_asg, ev_setA, ev_nilA, ev_consA, ev_seqT, ev_seqL, ev_setN, ev_ok, ev_ioV, ev_ioU, ev_ioW, ev_owV, ev_owU, ev_own, ev_put, ev_ixOwn, ev_lenOwn, ev_setIx, ev_comp, ev_compL0, ev_compL1, ev_okC, ev_wipe1, ev_wipe0, ev_rest1, ev_rest0, ev_call, ev_callN, ev_ofr, ev_ofn, ev_ofnN, ev_mut, ev_mdl, ev_mdi, ev_io, ev_addI, ev_subI, ev_negI, ev_cmpI, ev_eqI, ev_neI, ev_eqS, ev_neS, ev_intI, ev_intB, ev_absI, ev_lenL, ev_lenT, ev_ixL, ev_ixT, ev_at0, ev_at1, ev_at2, ev_i30, ev_i31, ev_i32, ev_pk1, ev_pk2, ev_pk3, ev_pk4, ev_pkw1, ev_pkw2, ev_pkv2, ev_isI, ev_isN, ev_isB, ev_inI, ev_inN, ev_inB, ev_listT, ev_listL, ev_tupT, ev_tupL, ev_fld, ev_insAt, ev_fldOwn, ev_fldG, ev_meth, ev_make, ev_callL, ev_noLI, ev_nilL, ev_nameL, ev_lendL, ev_conL, ev_augIx, ev_putAt, ev_iadd, ev_isub, ev_revT, ev_enum, ev_zip, ev_seqDL, ev_seqDT, ev_nilM, ev_vaM, ev_owM, ev_parM, ev_app, ev_par, ev_par3, R.bind_ok, R.out_ok, Option.bind_some, List.getElem?_cons_succ, List.getElem?_cons_zero, List.set_cons_succ, List.set_cons_zero, List.length_cons, List.length_nil, Nat.reduceAdd, Nat.reduceEqDiff, List.getD_cons_succ, List.getD_cons_zero, decide_true, decide_false, Bool.and_true, Bool.and_self, and_self, true_and, List.all_cons, List.all_nil, Bool.not_true, Bool.not_false, if_true, Bool.true_eq_false, Bool.false_eq_true, if_false, q5.1, e6, e7, e8, e9, sz5, sz4, d1, d2, c1]
      rfl
    · have d1 : decide (wy = 0) = false := decide_eq_false c1
      by_cases c2 : wy = 1
      · have d2 : decide (wy = 1) = true := decide_eq_true c2
        simp only [ev_name, ev_c, ev_op2, ev_op1, ev_toR1, ev_toRL1, ev_nil, ev_cons, ev_opn, ev_opnN, ev_tup, ev_lst, ev_lstN, ev_new, ev_tst, ev_notT, ev_andT, ev_orT, ev_notF, ev_andF, ev_orF, ev_ifF, ev_yes, ev_iter, ev_rng1, ev_rng2, ev_rngW, ev_noP, ev_sl, ev_part, ev_next, ev_noG, ev_seq, ev_drop, ev_ret, ev_retN, ev_if, ev_asg, ev_setA, ev_nilA, ev_consA, ev_seqT, ev_seqL, ev_setN, ev_ok, ev_ioV, ev_ioU, ev_ioW, ev_owV, ev_owU, ev_own, ev_put, ev_ixOwn, ev_lenOwn, ev_setIx, ev_comp, ev_compL0, ev_compL1, ev_okC, ev_wipe1, ev_wipe0, ev_rest1, ev_rest0, ev_call, ev_callN, ev_ofr, ev_ofn, ev_ofnN, ev_mut, ev_mdl, ev_mdi, ev_io, ev_addI, ev_subI, ev_negI, ev_cmpI, ev_eqI, ev_neI, ev_eqS, ev_neS, ev_intI, ev_intB, ev_absI, ev_lenL, ev_lenT, ev_ixL, ev_ixT, ev_at0, ev_at1, ev_at2, ev_i30, ev_i31, ev_i32, ev_pk1, ev_pk2, ev_pk3, ev_pk4, ev_pkw1, ev_pkw2, ev_pkv2, ev_isI, ev_isN, ev_isB, ev_inI, ev_inN, ev_inB, ev_listT, ev_listL, ev_tupT, ev_tupL, ev_fld, ev_insAt, ev_fldOwn, ev_fldG, ev_meth, ev_make, ev_callL, ev_noLI, ev_nilL, ev_nameL, ev_lendL, ev_conL, ev_augIx, ev_putAt, ev_iadd, ev_isub, ev_revT, ev_enum, ev_zip, ev_seqDL, ev_seqDT, ev_nilM, ev_vaM, ev_owM, ev_parM, ev_app, ev_par, ev_par3, R.bind_ok, R.out_ok, Option.bind_some, List.getElem?_cons_succ, List.getElem?_cons_zero, List.set_cons_succ, List.set_cons_zero, List.length_cons, List.length_nil, Nat.reduceAdd, Nat.reduceEqDiff, List.getD_cons_succ, List.getD_cons_zero, decide_true, decide_false, Bool.and_true, Bool.and_self, and_self, true_and, List.all_cons, List.all_nil, Bool.not_true, Bool.not_false, if_true, Bool.true_eq_false, Bool.false_eq_true, if_false, q5.1, e6, e7, e8, e9, sz5, sz4, d1, d2, c2]
        rfl
      · have d2 : decide (wy = 1) = false := decide_eq_false c2
        simp only [ev_name, ev_c, ev_op2, ev_op1, ev_toR1, ev_toRL1, ev_nil, ev_cons, ev_opn, ev_opnN, ev_tup, ev_lst, ev_lstN, ev_new, ev_tst, ev_notT, ev_andT, ev_orT, ev_notF, ev_andF, ev_orF, ev_ifF, ev_yes, ev_iter, ev_rng1, ev_rng2, ev_rngW, ev_noP, ev_sl, ev_part, ev_next, ev_noG, ev_seq, ev_drop, ev_ret, ev_retN, ev_if, ev_asg, ev_setA, ev_nilA, ev_consA, ev_seqT, ev_seqL, ev_setN, ev_ok, ev_ioV, ev_ioU, ev_ioW, ev_owV, ev_owU, ev_own, ev_put, ev_ixOwn, ev_lenOwn, ev_setIx, ev_comp, ev_compL0, ev_compL1, ev_okC, ev_wipe1, ev_wipe0, ev_rest1, ev_rest0, ev_call, ev_callN, ev_ofr, ev_ofn, ev_ofnN, ev_mut, ev_mdl, ev_mdi, ev_io, ev_addI, ev_subI, ev_negI, ev_cmpI, ev_eqI, ev_neI, ev_eqS, ev_neS, ev_intI, ev_intB, ev_absI, ev_lenL, ev_lenT, ev_ixL, ev_ixT, ev_at0, ev_at1, ev_at2, ev_i30, ev_i31, ev_i32, ev_pk1, ev_pk2, ev_pk3, ev_pk4, ev_pkw1, ev_pkw2, ev_pkv2, ev_isI, ev_isN, ev_isB, ev_inI, ev_inN, ev_inB, ev_listT, ev_listL, ev_tupT, ev_tupL, ev_fld, ev_insAt, ev_fldOwn, ev_fldG, ev_meth, ev_make, ev_callL, ev_noLI, ev_nilL, ev_nameL, ev_lendL, ev_conL, ev_augIx, ev_putAt, ev_iadd, ev_isub, ev_revT, ev_enum, ev_zip, ev_seqDL, ev_seqDT, ev_nilM, ev_vaM, ev_owM, ev_parM, ev_app, ev_par, ev_par3, R.bind_ok, R.out_ok, Option.bind_some, List.getElem?_cons_succ, List.getElem?_cons_zero, List.set_cons_succ, List.set_cons_zero, List.length_cons, List.length_nil, Nat.reduceAdd, Nat.reduceEqDiff, List.getD_cons_succ, List.getD_cons_zero, decide_true, decide_false, Bool.and_true, Bool.and_self, and_self, true_and, List.all_cons, List.all_nil, Bool.not_true, Bool.not_false, if_true, Bool.true_eq_false, Bool.false_eq_true, if_false, q5.1, e6, e7, e8, e9, sz5, sz4, d1, d2, c1, c2]
        rfl
  · refine es _ _ ?_ ?_ ?_ ?_ <;> (split <;> omega)
end Fx

set_option Elab.async false
set_option linter.all false
set_option maxRecDepth 100000
namespace Fx
open PySem L2 PyProof.Rows
theorem list_of {α : Type} {f : α → D} {p : α → Prop} : ∀ {ys : List D}, (∀ y ∈ ys, ∃ x, y = f x ∧ p x) → ∃ xs : List α, ys = xs.map f ∧ ∀ x ∈ xs, p x
  | [], _ => ⟨[], rfl, fun n h => by cases h⟩
  | y :: ys, h => by
    obtain ⟨n, rfl, hn⟩ := h y List.mem_cons_self
    obtain ⟨ns, rfl, hs⟩ := list_of (ys := ys) fun z hz => h z (List.mem_cons_of_mem _ hz)
    exact ⟨n :: ns, rfl, fun m hm => by
      rcases List.mem_cons.mp hm with rfl | hm
      · exact hn
      · exact hs m hm⟩
theorem all_of {p : D → Prop} {ys : List D} {m : Nat} (h : ∀ (j : Nat) (y : D), ys[j]? = some y → p y) : ∀ y ∈ ys, p y := fun y hy => by
  obtain ⟨j, hj, e⟩ := List.getElem_of_mem hy
  exact h j y (List.getElem?_eq_some_iff.mpr ⟨hj, e⟩)
def stD (st : List Stp) : D := .tup (st.map Stp.d)
theorem steps {b : Nat} {P : List D} {w most : Int} (h : Pen b P) (w1 : 1 ≤ w) (w6 : w ≤ 6) (m0 : 0 ≤ most) (m12 : most ≤ 12) (hb : b < 2 ^ 17) : ∃ (st : List Stp) (P' : List D), F__law_steps [.lst P, .int w, .int most] = .ret (stD st) (.l P') ∧ (∀ s ∈ st, s.Ok w) ∧ (st.length : Int) ≤ most ∧ Pen (b + 250) P' := by
  obtain ⟨r, P1, e1, r0, r1, g1⟩ := draw (m := most + 1) h (by omega) (by omega) (by omega)
  obtain ⟨ys, s', e2, hl, hY, P', y3, rfl, q3, hP⟩ := compL_run (vs := [3]) (a := setA 3) (u := yesT) (f := callIoF F__law_step 2 0 (consF (nameF 1) nilF))
    (I := fun m s' => ∃ P' y3, s' = [.io (.l P'), .va (.int w), .va (.int most), y3] ∧ Pl y3 ∧ Pen (b + 1 + 20 * m) P') (Y := fun _ y => ∃ s : Stp, y = s.d ∧ s.Ok w) (rngD 0 r) 0 [.io (.l P1), .va (.int w), .va (.int most), .un] ⟨P1, .un, rfl, Pl.un, g1⟩ fun m d s' e i => by
      obtain ⟨P', y3, rfl, q3, hP⟩ := i
      have hm : m < 12 := by
        have := (List.getElem?_eq_some_iff.mp e).1
        rw [rngD_length] at this
        omega
      obtain ⟨n, P2, e2, hn, h2'⟩ := step hP w1 w6 (by omega)
      refine ⟨[.io (.l P'), .va (.int w), .va (.int most), .va d], [.io (.l P'), .va (.int w), .va (.int most), .va d], [.io (.l P2), .va (.int w), .va (.int most), .va d], n.d, ?_, rfl, ?_, ⟨n, rfl, hn⟩, P2, .va d, rfl, Pl.va, h2'.mono (by omega)⟩
      · simp only [ev_name, ev_c, ev_op2, ev_op1, ev_toR1, ev_toRL1, ev_nil, ev_cons, ev_opn, ev_opnN, ev_tup, ev_lst, ev_lstN, ev_new, ev_tst, ev_notT, ev_andT, ev_orT, ev_notF, ev_andF, ev_orF, ev_ifF, ev_yes, ev_iter, ev_rng1, ev_rng2, ev_rngW, ev_noP, ev_sl, ev_part, ev_next, ev_noG, ev_seq, ev_drop, ev_ret, ev_retN, ev_if, ev_asg, ev_setA, ev_nilA, ev_consA, ev_seqT, ev_seqL, ev_setN, ev_ok, ev_ioV, ev_ioU, ev_ioW, ev_owV, ev_owU, ev_own, ev_put, ev_ixOwn, ev_lenOwn, ev_setIx, ev_comp, ev_compL0, ev_compL1, ev_okC, ev_wipe1, ev_wipe0, ev_rest1, ev_rest0, ev_call, ev_callN, ev_ofr, ev_ofn, ev_ofnN, ev_mut, ev_mdl, ev_mdi, ev_io, ev_addI, ev_subI, ev_negI, ev_cmpI, ev_eqI, ev_neI, ev_eqS, ev_neS, ev_intI, ev_intB, ev_absI, ev_lenL, ev_lenT, ev_ixL, ev_ixT, ev_at0, ev_at1, ev_at2, ev_i30, ev_i31, ev_i32, ev_pk1, ev_pk2, ev_pk3, ev_pk4, ev_pkw1, ev_pkw2, ev_pkv2, ev_isI, ev_isN, ev_isB, ev_inI, ev_inN, ev_inB, ev_listT, ev_listL, ev_tupT, ev_tupL, ev_fld, ev_insAt, ev_fldOwn, ev_fldG, ev_meth, ev_make, ev_callL, ev_noLI, ev_nilL, ev_nameL, ev_lendL, ev_conL, ev_augIx, ev_putAt, ev_iadd, ev_isub, ev_revT, ev_enum, ev_zip, ev_seqDL, ev_seqDT, ev_nilM, ev_vaM, ev_owM, ev_parM, ev_app, ev_par, ev_par3, R.bind_ok, R.out_ok, Option.bind_some, List.getElem?_cons_succ, List.getElem?_cons_zero, List.set_cons_succ, List.set_cons_zero, List.length_cons, List.length_nil, Nat.reduceAdd, Nat.reduceEqDiff, List.getD_cons_succ, List.getD_cons_zero, decide_true, decide_false, Bool.and_true, Bool.and_self, and_self, true_and, List.all_cons, List.all_nil, Bool.not_true, Bool.not_false, if_true, Bool.true_eq_false, Bool.false_eq_true, if_false]
      · simp only [ev_name, ev_c, ev_op2, ev_op1, ev_toR1, ev_toRL1, ev_nil, ev_cons, ev_opn, ev_opnN, ev_tup, ev_lst, ev_lstN, ev_new, ev_tst, ev_notT, ev_andT, ev_orT, ev_notF, ev_andF, ev_orF, ev_ifF, ev_yes, ev_iter, ev_rng1, ev_rng2, ev_rngW, ev_noP, ev_sl, ev_part, ev_next, ev_noG, ev_seq, ev_drop, ev_ret, ev_retN, ev_if, ev_asg, ev_setA, ev_nilA, ev_consA, ev_seqT, ev_seqL, ev_setN, ev_ok, ev_ioV, ev_ioU, ev_ioW, ev_owV, ev_owU, ev_own, ev_put, ev_ixOwn, ev_lenOwn, ev_setIx, ev_comp, ev_compL0, ev_compL1, ev_okC, ev_wipe1, ev_wipe0, ev_rest1, ev_rest0, ev_call, ev_callN, ev_ofr, ev_ofn, ev_ofnN, ev_mut, ev_mdl, ev_mdi, ev_io, ev_addI, ev_subI, ev_negI, ev_cmpI, ev_eqI, ev_neI, ev_eqS, ev_neS, ev_intI, ev_intB, ev_absI, ev_lenL, ev_lenT, ev_ixL, ev_ixT, ev_at0, ev_at1, ev_at2, ev_i30, ev_i31, ev_i32, ev_pk1, ev_pk2, ev_pk3, ev_pk4, ev_pkw1, ev_pkw2, ev_pkv2, ev_isI, ev_isN, ev_isB, ev_inI, ev_inN, ev_inB, ev_listT, ev_listL, ev_tupT, ev_tupL, ev_fld, ev_insAt, ev_fldOwn, ev_fldG, ev_meth, ev_make, ev_callL, ev_noLI, ev_nilL, ev_nameL, ev_lendL, ev_conL, ev_augIx, ev_putAt, ev_iadd, ev_isub, ev_revT, ev_enum, ev_zip, ev_seqDL, ev_seqDT, ev_nilM, ev_vaM, ev_owM, ev_parM, ev_app, ev_par, ev_par3, R.bind_ok, R.out_ok, Option.bind_some, List.getElem?_cons_succ, List.getElem?_cons_zero, List.set_cons_succ, List.set_cons_zero, List.length_cons, List.length_nil, Nat.reduceAdd, Nat.reduceEqDiff, List.getD_cons_succ, List.getD_cons_zero, decide_true, decide_false, Bool.and_true, Bool.and_self, and_self, true_and, List.all_cons, List.all_nil, Bool.not_true, Bool.not_false, if_true, Bool.true_eq_false, Bool.false_eq_true, if_false, e2]
  have hlen : (rngD 0 r).length = r.toNat := by rw [rngD_length]; congr 1; omega
  obtain ⟨st, rfl, hs⟩ := list_of (all_of (m := 0) fun j y e => hY j y e)
  rw [List.length_map, hlen] at hl
  refine ⟨st, P', ?_, hs, by omega, hP.mono (by rw [hlen]; omega)⟩
  show outF true (g__law_steps [.io P, .va (.int w), .va (.int most), .un]) = _
  simp only [g__law_steps, ev_name, ev_c, ev_op2, ev_op1, ev_toR1, ev_toRL1, ev_nil, ev_cons, ev_opn, ev_opnN, ev_tup, ev_lst, ev_lstN, ev_new, ev_tst, ev_notT, ev_andT, ev_orT, ev_notF, ev_andF, ev_orF, ev_ifF, ev_yes, ev_iter, ev_rng1, ev_rng2, ev_rngW, ev_noP, ev_sl, ev_part, ev_next, ev_noG, ev_seq, ev_drop, ev_ret, ev_retN, ev_if, ev_asg, ev_setA, ev_nilA, ev_consA, ev_seqT, ev_seqL, ev_setN, ev_ok, ev_ioV, ev_ioU, ev_ioW, ev_owV, ev_owU, ev_own, ev_put, ev_ixOwn, ev_lenOwn, ev_setIx, ev_comp, ev_compL0, ev_compL1, ev_okC, ev_wipe1, ev_wipe0, ev_rest1, ev_rest0, ev_call, ev_callN, ev_ofr, ev_ofn, ev_ofnN, ev_mut, ev_mdl, ev_mdi, ev_io, ev_addI, ev_subI, ev_negI, ev_cmpI, ev_eqI, ev_neI, ev_eqS, ev_neS, ev_intI, ev_intB, ev_absI, ev_lenL, ev_lenT, ev_ixL, ev_ixT, ev_at0, ev_at1, ev_at2, ev_i30, ev_i31, ev_i32, ev_pk1, ev_pk2, ev_pk3, ev_pk4, ev_pkw1, ev_pkw2, ev_pkv2, ev_isI, ev_isN, ev_isB, ev_inI, ev_inN, ev_inB, ev_listT, ev_listL, ev_tupT, ev_tupL, ev_fld, ev_insAt, ev_fldOwn, ev_fldG, ev_meth, ev_make, ev_callL, ev_noLI, ev_nilL, ev_nameL, ev_lendL, ev_conL, ev_augIx, ev_putAt, ev_iadd, ev_isub, ev_revT, ev_enum, ev_zip, ev_seqDL, ev_seqDT, ev_nilM, ev_vaM, ev_owM, ev_parM, ev_app, ev_par, ev_par3, R.bind_ok, R.out_ok, Option.bind_some, List.getElem?_cons_succ, List.getElem?_cons_zero, List.set_cons_succ, List.set_cons_zero, List.length_cons, List.length_nil, Nat.reduceAdd, Nat.reduceEqDiff, List.getD_cons_succ, List.getD_cons_zero, decide_true, decide_false, Bool.and_true, Bool.and_self, and_self, true_and, List.all_cons, List.all_nil, Bool.not_true, Bool.not_false, if_true, Bool.true_eq_false, Bool.false_eq_true, if_false, e1, sm_small r0 (show r ≤ 5000 by omega), rng_small (show r ≤ 5000 by omega), e2, q3.2]
  rfl
/-! ### what a step adds -/
def shareS (s : Stp) (bs : List Int) : Int := (s.ps.map fun p => p.2 * bs.getD p.1.toNat 0).sum
def shareI (s : Stp) (bs : List Int) : Int := (shareS s bs + s.a) / s.o
def SeqX (X : D) (bs : List Int) : Prop := X = .tup (bs.map D.int) ∨ X = .lst (bs.map D.int)
theorem SeqX.ix {X : D} {bs : List Int} (h : SeqX X bs) (j : Int) : ixD X (.int j) = atD (bs.map D.int) j := by rcases h with rfl | rfl <;> rfl
theorem SeqX.list {X : D} {bs : List Int} (h : SeqX X bs) : listN [X] = some (bs.map D.int) := by rcases h with rfl | rfl <;> rfl
theorem SeqX.tup {X : D} {bs : List Int} (h : SeqX X bs) : tupleD [X] = some (.tup (bs.map D.int)) := by rcases h with rfl | rfl <;> rfl
theorem SeqX.len {X : D} {bs : List Int} (h : SeqX X bs) : lenD [X] = some (.int bs.length) := by rcases h with rfl | rfl <;> (show some (D.int (((bs.map D.int).length : Nat) : Int)) = _; rw [List.length_map])
theorem SeqX.isi {X : D} {bs : List Int} (h : SeqX X bs) : isiD [X, .tup [.ty "list", .ty "tuple"]] = some (.bl true) := by rcases h with rfl | rfl <;> rfl
theorem SeqX.iter {X : D} {bs : List Int} {s : List Sl} {f : F D} (h : SeqX X bs) (e : f s = .ok X s) : iterF f s = .ok (bs.map D.int) s := by
  rw [ev_iter, e]
  rcases h with rfl | rfl <;> rfl
theorem SeqX.seq {X : D} {bs : List Int} (h : SeqX X bs) : seqD X = some (bs.map D.int) := by rcases h with rfl | rfl <;> rfl
theorem at_int {bs : List Int} {j : Int} (h0 : 0 ≤ j) (h : j.toNat < bs.length) : atD (bs.map D.int) j = some (.int (bs.getD j.toNat 0)) := by
  refine ev_int h0 ?_
  rw [List.getElem?_map, List.getD_eq_getElem?_getD, List.getElem?_eq_getElem h]
  rfl
theorem Stp.Ok.in {w : Int} {s : Stp} {bs : List Int} (ok : s.Ok w) (hl : (bs.length : Int) = w) : ∀ p ∈ s.ps, 0 ≤ p.1 ∧ p.1.toNat < bs.length ∧ -9 ≤ p.2 ∧ p.2 ≤ 9 := fun p hp => by
  have := ok.p.pr p hp
  omega
theorem log9 {o : Int} (h1 : 1 ≤ o) (h2 : o ≤ 9) : o.natAbs.log2 < 9000 := log_lt (by omega) (by omega)
theorem intsD_map (ns : List Int) : intsD (ns.map D.int) = some ns := by
  induction ns with
  | nil => rfl
  | cons n ns ih =>
    rw [List.map_cons]
    unfold intsD
    rw [ih]
    rfl
theorem share_prog {w : Int} {s : Stp} {bs : List Int} {X : D} (ok : s.Ok w) (w6 : w ≤ 6) (hl : (bs.length : Int) = w) (hX : SeqX X bs) : F_share [s.d, X] = .ret (.int (shareI s bs)) (.l []) := by
  have f : ∀ x : Int, fdivD (.int x) (.int s.o) = some (.int (x / s.o)) := fun x => ev_fdivI (by have := ok.o0; omega) (log9 ok.o0 ok.o1)
  have sq : ∀ (b : ASs) (t : List Sl), seqA 4 b s.d t = b [.int s.t, .tup (s.ps.map pairD), .int s.a, .int s.o] t := fun _ _ => rfl
  have hlen := ok.len
  have c : compN (iterF (nameF 3)) [6, 7] (seqA 2 (consA (setA 6) (consA (setA 7) nilA))) yesT (op2F mulD (nameF 7) (op2F ixD (nameF 1) (nameF 6))) [.va s.d, .va X, .va (.int s.t), .va (.tup (s.ps.map pairD)), .va (.int s.a), .va (.int s.o), .un, .un] =
      .ok ((s.ps.map pairD).map fun d => match d with | .tup [.int x, .int y] => .int (y * bs.getD x.toNat 0) | _ => .non) [.va s.d, .va X, .va (.int s.t), .va (.tup (s.ps.map pairD)), .va (.int s.a), .va (.int s.o), .un, .un] := by
    refine compN_pure _ (s := [.va s.d, .va X, .va (.int s.t), .va (.tup (s.ps.map pairD)), .va (.int s.a), .va (.int s.o), .un, .un]) (s1 := [.va s.d, .va X, .va (.int s.t), .va (.tup (s.ps.map pairD)), .va (.int s.a), .va (.int s.o), .un, .un]) (ds := s.ps.map pairD) rfl (by rw [List.length_map, sizeLine_eq]; omega) rfl (fun s' => ∃ y z, s' = [.va s.d, .va X, .va (.int s.t), .va (.tup (s.ps.map pairD)), .va (.int s.a), .va (.int s.o), y, z]) ⟨.un, .un, rfl⟩ (fun s' ⟨y, z, e⟩ => by rw [e]; rfl) ?_
    rintro d hd s' ⟨y, z, rfl⟩
    obtain ⟨p, hp, rfl⟩ := List.mem_map.mp hd
    obtain ⟨h1, h2, h3, h4⟩ := ok.in hl p hp
    have m : ∀ v : Int, mulD (.int p.2) (.int v) = some (.int (p.2 * v)) := fun v => ev_mulS (.inl ⟨by omega, by omega⟩)
    refine ⟨_, _, _, rfl, rfl, ?_, .va (.int p.1), .va (.int p.2), rfl⟩
    unfold pairD
    dsimp only
    simp only [ev_name, ev_c, ev_op2, ev_op1, ev_toR1, ev_toRL1, ev_nil, ev_cons, ev_opn, ev_opnN, ev_tup, ev_lst, ev_lstN, ev_new, ev_tst, ev_notT, ev_andT, ev_orT, ev_notF, ev_andF, ev_orF, ev_ifF, ev_yes, ev_iter, ev_rng1, ev_rng2, ev_rngW, ev_noP, ev_sl, ev_part, ev_next, ev_noG, ev_seq, ev_drop, ev_ret, ev_retN, ev_if, ev_asg, ev_setA, ev_nilA, ev_consA, ev_seqT, ev_seqL, ev_setN, ev_ok, ev_ioV, ev_ioU, ev_ioW, ev_owV, ev_owU, ev_own, ev_put, ev_ixOwn, ev_lenOwn, ev_setIx, ev_comp, ev_compL0, ev_compL1, ev_okC, ev_wipe1, ev_wipe0, ev_rest1, ev_rest0, ev_call, ev_callN, ev_ofr, ev_ofn, ev_ofnN, ev_mut, ev_mdl, ev_mdi, ev_io, ev_addI, ev_subI, ev_negI, ev_cmpI, ev_eqI, ev_neI, ev_eqS, ev_neS, ev_intI, ev_intB, ev_absI, ev_lenL, ev_lenT, ev_ixL, ev_ixT, ev_at0, ev_at1, ev_at2, ev_i30, ev_i31, ev_i32, ev_pk1, ev_pk2, ev_pk3, ev_pk4, ev_pkw1, ev_pkw2, ev_pkv2, ev_isI, ev_isN, ev_isB, ev_inI, ev_inN, ev_inB, ev_listT, ev_listL, ev_tupT, ev_tupL, ev_fld, ev_insAt, ev_fldOwn, ev_fldG, ev_meth, ev_make, ev_callL, ev_noLI, ev_nilL, ev_nameL, ev_lendL, ev_conL, ev_augIx, ev_putAt, ev_iadd, ev_isub, ev_revT, ev_enum, ev_zip, ev_seqDL, ev_seqDT, ev_nilM, ev_vaM, ev_owM, ev_parM, ev_app, ev_par, ev_par3, R.bind_ok, R.out_ok, Option.bind_some, List.getElem?_cons_succ, List.getElem?_cons_zero, List.set_cons_succ, List.set_cons_zero, List.length_cons, List.length_nil, Nat.reduceAdd, Nat.reduceEqDiff, List.getD_cons_succ, List.getD_cons_zero, decide_true, decide_false, Bool.and_true, Bool.and_self, and_self, true_and, List.all_cons, List.all_nil, Bool.not_true, Bool.not_false, if_true, Bool.true_eq_false, Bool.false_eq_true, if_false, hX.ix, at_int h1 h2, m]
  have e2 : ((s.ps.map pairD).map fun d => match d with | .tup [.int x, .int y] => D.int (y * bs.getD x.toNat 0) | _ => .non) = (s.ps.map fun p => p.2 * bs.getD p.1.toNat 0).map D.int := by
    rw [List.map_map, List.map_map]
    rfl
  rw [e2] at c
  have su : sumD [.lst ((s.ps.map fun p => p.2 * bs.getD p.1.toNat 0).map D.int)] = some (.int (shareS s bs)) := by
    unfold sumD
    dsimp only
    rw [intsD_map]
    rfl
  show outF false (g_share [.va s.d, .va X, .un, .un, .un, .un, .un, .un]) = _
  simp only [g_share, ev_name, ev_c, ev_op2, ev_op1, ev_toR1, ev_toRL1, ev_nil, ev_cons, ev_opn, ev_opnN, ev_tup, ev_lst, ev_lstN, ev_new, ev_tst, ev_notT, ev_andT, ev_orT, ev_notF, ev_andF, ev_orF, ev_ifF, ev_yes, ev_iter, ev_rng1, ev_rng2, ev_rngW, ev_noP, ev_sl, ev_part, ev_next, ev_noG, ev_seq, ev_drop, ev_ret, ev_retN, ev_if, ev_asg, ev_setA, ev_nilA, ev_consA, ev_seqT, ev_seqL, ev_setN, ev_ok, ev_ioV, ev_ioU, ev_ioW, ev_owV, ev_owU, ev_own, ev_put, ev_ixOwn, ev_lenOwn, ev_setIx, ev_okC, ev_wipe1, ev_wipe0, ev_rest1, ev_rest0, ev_call, ev_callN, ev_ofr, ev_ofn, ev_ofnN, ev_mut, ev_mdl, ev_mdi, ev_io, ev_addI, ev_subI, ev_negI, ev_cmpI, ev_eqI, ev_neI, ev_eqS, ev_neS, ev_intI, ev_intB, ev_absI, ev_lenL, ev_lenT, ev_ixL, ev_ixT, ev_at0, ev_at1, ev_at2, ev_i30, ev_i31, ev_i32, ev_pk1, ev_pk2, ev_pk3, ev_pk4, ev_pkw1, ev_pkw2, ev_pkv2, ev_isI, ev_isN, ev_isB, ev_inI, ev_inN, ev_inB, ev_listT, ev_listL, ev_tupT, ev_tupL, ev_fld, ev_insAt, ev_fldOwn, ev_fldG, ev_meth, ev_make, ev_callL, ev_noLI, ev_nilL, ev_nameL, ev_lendL, ev_conL, ev_augIx, ev_putAt, ev_iadd, ev_isub, ev_revT, ev_enum, ev_zip, ev_seqDL, ev_seqDT, ev_nilM, ev_vaM, ev_owM, ev_parM, ev_app, ev_par, ev_par3, R.bind_ok, R.out_ok, Option.bind_some, List.getElem?_cons_succ, List.getElem?_cons_zero, List.set_cons_succ, List.set_cons_zero, List.length_cons, List.length_nil, Nat.reduceAdd, Nat.reduceEqDiff, List.getD_cons_succ, List.getD_cons_zero, decide_true, decide_false, Bool.and_true, Bool.and_self, and_self, true_and, List.all_cons, List.all_nil, Bool.not_true, Bool.not_false, if_true, Bool.true_eq_false, Bool.false_eq_true, if_false, sq, c, su, f]
  rfl
/-! ### forth and back -/
def fo (s : Stp) (bs : List Int) : List Int := bs.set s.t.toNat (bs.getD s.t.toNat 0 + shareI s bs)
def un1 (s : Stp) (bs : List Int) : List Int := bs.set s.t.toNat (bs.getD s.t.toNat 0 - shareI s bs)
def forthI : List Stp → List Int → List Int
  | [], b => b
  | s :: r, b => forthI r (fo s b)
def backR : List Stp → List Int → List Int
  | [], b => b
  | s :: r, b => backR r (un1 s b)
def backI (st : List Stp) (b : List Int) : List Int := backR st.reverse b
theorem fo_len {s : Stp} {bs : List Int} : (fo s bs).length = bs.length := List.length_set ..
theorem un_len {s : Stp} {bs : List Int} : (un1 s bs).length = bs.length := List.length_set ..
theorem forth_len : ∀ {st : List Stp} {bs : List Int}, (forthI st bs).length = bs.length
  | [], _ => rfl
  | s :: st, bs => by rw [forthI, forth_len, fo_len]
theorem backR_len : ∀ {st : List Stp} {bs : List Int}, (backR st bs).length = bs.length
  | [], _ => rfl
  | s :: st, bs => by rw [backR, backR_len, un_len]
theorem back_len {st : List Stp} {bs : List Int} : (backI st bs).length = bs.length := backR_len
end Fx

set_option Elab.async false
set_option linter.all false
set_option maxRecDepth 100000
namespace Fx
open PySem L2 PyProof.Rows
/-! ### the program's checks -/
theorem needWithin {v a b : Int} {z : Str} (h1 : a ≤ v) (h2 : v ≤ b) : F_need_within [.int v, .int a, .int b, .str z] = .ret .non (.l []) := by
  show outF false (g_need_within [.va (.int v), .va (.int a), .va (.int b), .va (.str z)]) = _
  simp only [g_need_within, ev_name, ev_c, ev_op2, ev_op1, ev_toR1, ev_toRL1, ev_nil, ev_cons, ev_opn, ev_opnN, ev_tup, ev_lst, ev_lstN, ev_new, ev_tst, ev_notT, ev_andT, ev_orT, ev_notF, ev_andF, ev_orF, ev_ifF, ev_yes, ev_iter, ev_rng1, ev_rng2, ev_rngW, ev_noP, ev_sl, ev_part, ev_next, ev_noG, ev_seq, ev_drop, ev_ret, ev_retN, ev_if, ev_asg, ev_setA, ev_nilA, ev_consA, ev_seqT, ev_seqL, ev_setN, ev_ok, ev_ioV, ev_ioU, ev_ioW, ev_owV, ev_owU, ev_own, ev_put, ev_ixOwn, ev_lenOwn, ev_setIx, ev_comp, ev_compL0, ev_compL1, ev_okC, ev_wipe1, ev_wipe0, ev_rest1, ev_rest0, ev_call, ev_callN, ev_ofr, ev_ofn, ev_ofnN, ev_mut, ev_mdl, ev_mdi, ev_io, ev_addI, ev_subI, ev_negI, ev_cmpI, ev_eqI, ev_neI, ev_eqS, ev_neS, ev_intI, ev_intB, ev_absI, ev_lenL, ev_lenT, ev_ixL, ev_ixT, ev_at0, ev_at1, ev_at2, ev_i30, ev_i31, ev_i32, ev_pk1, ev_pk2, ev_pk3, ev_pk4, ev_pkw1, ev_pkw2, ev_pkv2, ev_isI, ev_isN, ev_isB, ev_inI, ev_inN, ev_inB, ev_listT, ev_listL, ev_tupT, ev_tupL, ev_fld, ev_insAt, ev_fldOwn, ev_fldG, ev_meth, ev_make, ev_callL, ev_noLI, ev_nilL, ev_nameL, ev_lendL, ev_conL, ev_augIx, ev_putAt, ev_iadd, ev_isub, ev_revT, ev_enum, ev_zip, ev_seqDL, ev_seqDT, ev_nilM, ev_vaM, ev_owM, ev_parM, ev_app, ev_par, ev_par3, R.bind_ok, R.out_ok, Option.bind_some, List.getElem?_cons_succ, List.getElem?_cons_zero, List.set_cons_succ, List.set_cons_zero, List.length_cons, List.length_nil, Nat.reduceAdd, Nat.reduceEqDiff, List.getD_cons_succ, List.getD_cons_zero, decide_true, decide_false, Bool.and_true, Bool.and_self, and_self, true_and, List.all_cons, List.all_nil, Bool.not_true, Bool.not_false, if_true, Bool.true_eq_false, Bool.false_eq_true, if_false, within h1 h2]
  rfl
theorem needWidth {w : Int} (h1 : 1 ≤ w) (h2 : w ≤ 6) : F_need_width [.int w] = .ret .non (.l []) := by
  show outF false (g_need_width [.va (.int w)]) = _
  simp only [g_need_width, ev_name, ev_c, ev_op2, ev_op1, ev_toR1, ev_toRL1, ev_nil, ev_cons, ev_opn, ev_opnN, ev_tup, ev_lst, ev_lstN, ev_new, ev_tst, ev_notT, ev_andT, ev_orT, ev_notF, ev_andF, ev_orF, ev_ifF, ev_yes, ev_iter, ev_rng1, ev_rng2, ev_rngW, ev_noP, ev_sl, ev_part, ev_next, ev_noG, ev_seq, ev_drop, ev_ret, ev_retN, ev_if, ev_asg, ev_setA, ev_nilA, ev_consA, ev_seqT, ev_seqL, ev_setN, ev_ok, ev_ioV, ev_ioU, ev_ioW, ev_owV, ev_owU, ev_own, ev_put, ev_ixOwn, ev_lenOwn, ev_setIx, ev_comp, ev_compL0, ev_compL1, ev_okC, ev_wipe1, ev_wipe0, ev_rest1, ev_rest0, ev_call, ev_callN, ev_ofr, ev_ofn, ev_ofnN, ev_mut, ev_mdl, ev_mdi, ev_io, ev_addI, ev_subI, ev_negI, ev_cmpI, ev_eqI, ev_neI, ev_eqS, ev_neS, ev_intI, ev_intB, ev_absI, ev_lenL, ev_lenT, ev_ixL, ev_ixT, ev_at0, ev_at1, ev_at2, ev_i30, ev_i31, ev_i32, ev_pk1, ev_pk2, ev_pk3, ev_pk4, ev_pkw1, ev_pkw2, ev_pkv2, ev_isI, ev_isN, ev_isB, ev_inI, ev_inN, ev_inB, ev_listT, ev_listL, ev_tupT, ev_tupL, ev_fld, ev_insAt, ev_fldOwn, ev_fldG, ev_meth, ev_make, ev_callL, ev_noLI, ev_nilL, ev_nameL, ev_lendL, ev_conL, ev_augIx, ev_putAt, ev_iadd, ev_isub, ev_revT, ev_enum, ev_zip, ev_seqDL, ev_seqDT, ev_nilM, ev_vaM, ev_owM, ev_parM, ev_app, ev_par, ev_par3, R.bind_ok, R.out_ok, Option.bind_some, List.getElem?_cons_succ, List.getElem?_cons_zero, List.set_cons_succ, List.set_cons_zero, List.length_cons, List.length_nil, Nat.reduceAdd, Nat.reduceEqDiff, List.getD_cons_succ, List.getD_cons_zero, decide_true, decide_false, Bool.and_true, Bool.and_self, and_self, true_and, List.all_cons, List.all_nil, Bool.not_true, Bool.not_false, if_true, Bool.true_eq_false, Bool.false_eq_true, if_false, needWithin h1 h2]
  rfl
theorem isSlot {t w : Int} (h1 : 1 ≤ w) (h2 : w ≤ 6) (h3 : 0 ≤ t) (h4 : t < w) : F_is_slot [.int t, .int w] = .ret (.bl true) (.l []) := by
  show outF false (g_is_slot [.va (.int t), .va (.int w)]) = _
  simp only [g_is_slot, ev_name, ev_c, ev_op2, ev_op1, ev_toR1, ev_toRL1, ev_nil, ev_cons, ev_opn, ev_opnN, ev_tup, ev_lst, ev_lstN, ev_new, ev_tst, ev_notT, ev_andT, ev_orT, ev_notF, ev_andF, ev_orF, ev_ifF, ev_yes, ev_iter, ev_rng1, ev_rng2, ev_rngW, ev_noP, ev_sl, ev_part, ev_next, ev_noG, ev_seq, ev_drop, ev_ret, ev_retN, ev_if, ev_asg, ev_setA, ev_nilA, ev_consA, ev_seqT, ev_seqL, ev_setN, ev_ok, ev_ioV, ev_ioU, ev_ioW, ev_owV, ev_owU, ev_own, ev_put, ev_ixOwn, ev_lenOwn, ev_setIx, ev_comp, ev_compL0, ev_compL1, ev_okC, ev_wipe1, ev_wipe0, ev_rest1, ev_rest0, ev_call, ev_callN, ev_ofr, ev_ofn, ev_ofnN, ev_mut, ev_mdl, ev_mdi, ev_io, ev_addI, ev_subI, ev_negI, ev_cmpI, ev_eqI, ev_neI, ev_eqS, ev_neS, ev_intI, ev_intB, ev_absI, ev_lenL, ev_lenT, ev_ixL, ev_ixT, ev_at0, ev_at1, ev_at2, ev_i30, ev_i31, ev_i32, ev_pk1, ev_pk2, ev_pk3, ev_pk4, ev_pkw1, ev_pkw2, ev_pkv2, ev_isI, ev_isN, ev_isB, ev_inI, ev_inN, ev_inB, ev_listT, ev_listL, ev_tupT, ev_tupL, ev_fld, ev_insAt, ev_fldOwn, ev_fldG, ev_meth, ev_make, ev_callL, ev_noLI, ev_nilL, ev_nameL, ev_lendL, ev_conL, ev_augIx, ev_putAt, ev_iadd, ev_isub, ev_revT, ev_enum, ev_zip, ev_seqDL, ev_seqDT, ev_nilM, ev_vaM, ev_owM, ev_parM, ev_app, ev_par, ev_par3, R.bind_ok, R.out_ok, Option.bind_some, List.getElem?_cons_succ, List.getElem?_cons_zero, List.set_cons_succ, List.set_cons_zero, List.length_cons, List.length_nil, Nat.reduceAdd, Nat.reduceEqDiff, List.getD_cons_succ, List.getD_cons_zero, decide_true, decide_false, Bool.and_true, Bool.and_self, and_self, true_and, List.all_cons, List.all_nil, Bool.not_true, Bool.not_false, if_true, Bool.true_eq_false, Bool.false_eq_true, if_false, needWidth h1 h2, within h3 (show t ≤ w - 1 by omega)]
  rfl
theorem blsD_true : ∀ (n : Nat), blsD (List.replicate n (D.bl true)) = some (List.replicate n true)
  | 0 => rfl
  | n + 1 => by
    rw [List.replicate_succ, List.replicate_succ]
    unfold blsD
    rw [blsD_true n]
    rfl
theorem all_true {ds : List D} : allD [.lst (ds.map fun _ => D.bl true)] = some (.bl true) := by
  rw [List.map_const']
  unfold allD
  dsimp only
  rw [blsD_true]
  show some (D.bl ((List.replicate ds.length true).all id)) = _
  rw [show (List.replicate ds.length true).all id = true by rw [List.all_replicate]; split <;> rfl]
theorem isBlock {w : Int} {bs : List Int} {X : D} (h1 : 1 ≤ w) (h2 : w ≤ 6) (hl : (bs.length : Int) = w) (hX : SeqX X bs) : F_is_block [X, .int w] = .ret (.bl true) (.l []) := by
  have c : compN (iterF (nameF 0)) [2] (setA 2) yesT (callF F_is_integer 1 (pickG 1 0 [] [0]) (consF (nameF 2) nilF) nilF) [.va X, .va (.int w), .un] = .ok ((bs.map D.int).map fun _ => D.bl true) [.va X, .va (.int w), .un] := by
    refine compN_1 (fun _ => D.bl true) (hX.iter rfl) (by rw [List.length_map, sizeLine_eq]; omega) (y0 := .un) rfl Pl.un rfl fun d hd => ?_
    obtain ⟨n, hn, rfl⟩ := List.mem_map.mp hd
    simp only [ev_name, ev_c, ev_op2, ev_op1, ev_toR1, ev_toRL1, ev_nil, ev_cons, ev_opn, ev_opnN, ev_tup, ev_lst, ev_lstN, ev_new, ev_tst, ev_notT, ev_andT, ev_orT, ev_notF, ev_andF, ev_orF, ev_ifF, ev_yes, ev_iter, ev_rng1, ev_rng2, ev_rngW, ev_noP, ev_sl, ev_part, ev_next, ev_noG, ev_seq, ev_drop, ev_ret, ev_retN, ev_if, ev_asg, ev_setA, ev_nilA, ev_consA, ev_seqT, ev_seqL, ev_setN, ev_ok, ev_ioV, ev_ioU, ev_ioW, ev_owV, ev_owU, ev_own, ev_put, ev_ixOwn, ev_lenOwn, ev_setIx, ev_comp, ev_compL0, ev_compL1, ev_okC, ev_wipe1, ev_wipe0, ev_rest1, ev_rest0, ev_call, ev_callN, ev_ofr, ev_ofn, ev_ofnN, ev_mut, ev_mdl, ev_mdi, ev_io, ev_addI, ev_subI, ev_negI, ev_cmpI, ev_eqI, ev_neI, ev_eqS, ev_neS, ev_intI, ev_intB, ev_absI, ev_lenL, ev_lenT, ev_ixL, ev_ixT, ev_at0, ev_at1, ev_at2, ev_i30, ev_i31, ev_i32, ev_pk1, ev_pk2, ev_pk3, ev_pk4, ev_pkw1, ev_pkw2, ev_pkv2, ev_isI, ev_isN, ev_isB, ev_inI, ev_inN, ev_inB, ev_listT, ev_listL, ev_tupT, ev_tupL, ev_fld, ev_insAt, ev_fldOwn, ev_fldG, ev_meth, ev_make, ev_callL, ev_noLI, ev_nilL, ev_nameL, ev_lendL, ev_conL, ev_augIx, ev_putAt, ev_iadd, ev_isub, ev_revT, ev_enum, ev_zip, ev_seqDL, ev_seqDT, ev_nilM, ev_vaM, ev_owM, ev_parM, ev_app, ev_par, ev_par3, R.bind_ok, R.out_ok, Option.bind_some, List.getElem?_cons_succ, List.getElem?_cons_zero, List.set_cons_succ, List.set_cons_zero, List.length_cons, List.length_nil, Nat.reduceAdd, Nat.reduceEqDiff, List.getD_cons_succ, List.getD_cons_zero, decide_true, decide_false, Bool.and_true, Bool.and_self, and_self, true_and, List.all_cons, List.all_nil, Bool.not_true, Bool.not_false, if_true, Bool.true_eq_false, Bool.false_eq_true, if_false, integer]
  have d1 : decide ((bs.length : Int) = w) = true := decide_eq_true hl
  show outF false (g_is_block [.va X, .va (.int w), .un]) = _
  simp only [g_is_block, ev_name, ev_c, ev_op2, ev_op1, ev_toR1, ev_toRL1, ev_nil, ev_cons, ev_opn, ev_opnN, ev_tup, ev_lst, ev_lstN, ev_new, ev_tst, ev_notT, ev_andT, ev_orT, ev_notF, ev_andF, ev_orF, ev_ifF, ev_yes, ev_iter, ev_rng1, ev_rng2, ev_rngW, ev_noP, ev_sl, ev_part, ev_next, ev_noG, ev_seq, ev_drop, ev_ret, ev_retN, ev_if, ev_asg, ev_setA, ev_nilA, ev_consA, ev_seqT, ev_seqL, ev_setN, ev_ok, ev_ioV, ev_ioU, ev_ioW, ev_owV, ev_owU, ev_own, ev_put, ev_ixOwn, ev_lenOwn, ev_setIx, ev_okC, ev_wipe1, ev_wipe0, ev_rest1, ev_rest0, ev_call, ev_callN, ev_ofr, ev_ofn, ev_ofnN, ev_mut, ev_mdl, ev_mdi, ev_io, ev_addI, ev_subI, ev_negI, ev_cmpI, ev_eqI, ev_neI, ev_eqS, ev_neS, ev_intI, ev_intB, ev_absI, ev_lenL, ev_lenT, ev_ixL, ev_ixT, ev_at0, ev_at1, ev_at2, ev_i30, ev_i31, ev_i32, ev_pk1, ev_pk2, ev_pk3, ev_pk4, ev_pkw1, ev_pkw2, ev_pkv2, ev_isI, ev_isN, ev_isB, ev_inI, ev_inN, ev_inB, ev_listT, ev_listL, ev_tupT, ev_tupL, ev_fld, ev_insAt, ev_fldOwn, ev_fldG, ev_meth, ev_make, ev_callL, ev_noLI, ev_nilL, ev_nameL, ev_lendL, ev_conL, ev_augIx, ev_putAt, ev_iadd, ev_isub, ev_revT, ev_enum, ev_zip, ev_seqDL, ev_seqDT, ev_nilM, ev_vaM, ev_owM, ev_parM, ev_app, ev_par, ev_par3, R.bind_ok, R.out_ok, Option.bind_some, List.getElem?_cons_succ, List.getElem?_cons_zero, List.set_cons_succ, List.set_cons_zero, List.length_cons, List.length_nil, Nat.reduceAdd, Nat.reduceEqDiff, List.getD_cons_succ, List.getD_cons_zero, decide_true, decide_false, Bool.and_true, Bool.and_self, and_self, true_and, List.all_cons, List.all_nil, Bool.not_true, Bool.not_false, if_true, Bool.true_eq_false, Bool.false_eq_true, if_false, needWidth h1 h2, hX.isi, hX.len, sz2, d1, c, all_true]
  rfl
theorem needBlock {w : Int} {bs : List Int} {X : D} (h1 : 1 ≤ w) (h2 : w ≤ 6) (hl : (bs.length : Int) = w) (hX : SeqX X bs) : F_need_block [X, .int w] = .ret (blD bs) (.l []) := by
  show outF false (g_need_block [.va X, .va (.int w)]) = _
  simp only [g_need_block, ev_name, ev_c, ev_op2, ev_op1, ev_toR1, ev_toRL1, ev_nil, ev_cons, ev_opn, ev_opnN, ev_tup, ev_lst, ev_lstN, ev_new, ev_tst, ev_notT, ev_andT, ev_orT, ev_notF, ev_andF, ev_orF, ev_ifF, ev_yes, ev_iter, ev_rng1, ev_rng2, ev_rngW, ev_noP, ev_sl, ev_part, ev_next, ev_noG, ev_seq, ev_drop, ev_ret, ev_retN, ev_if, ev_asg, ev_setA, ev_nilA, ev_consA, ev_seqT, ev_seqL, ev_setN, ev_ok, ev_ioV, ev_ioU, ev_ioW, ev_owV, ev_owU, ev_own, ev_put, ev_ixOwn, ev_lenOwn, ev_setIx, ev_comp, ev_compL0, ev_compL1, ev_okC, ev_wipe1, ev_wipe0, ev_rest1, ev_rest0, ev_call, ev_callN, ev_ofr, ev_ofn, ev_ofnN, ev_mut, ev_mdl, ev_mdi, ev_io, ev_addI, ev_subI, ev_negI, ev_cmpI, ev_eqI, ev_neI, ev_eqS, ev_neS, ev_intI, ev_intB, ev_absI, ev_lenL, ev_lenT, ev_ixL, ev_ixT, ev_at0, ev_at1, ev_at2, ev_i30, ev_i31, ev_i32, ev_pk1, ev_pk2, ev_pk3, ev_pk4, ev_pkw1, ev_pkw2, ev_pkv2, ev_isI, ev_isN, ev_isB, ev_inI, ev_inN, ev_inB, ev_listT, ev_listL, ev_tupT, ev_tupL, ev_fld, ev_insAt, ev_fldOwn, ev_fldG, ev_meth, ev_make, ev_callL, ev_noLI, ev_nilL, ev_nameL, ev_lendL, ev_conL, ev_augIx, ev_putAt, ev_iadd, ev_isub, ev_revT, ev_enum, ev_zip, ev_seqDL, ev_seqDT, ev_nilM, ev_vaM, ev_owM, ev_parM, ev_app, ev_par, ev_par3, R.bind_ok, R.out_ok, Option.bind_some, List.getElem?_cons_succ, List.getElem?_cons_zero, List.set_cons_succ, List.set_cons_zero, List.length_cons, List.length_nil, Nat.reduceAdd, Nat.reduceEqDiff, List.getD_cons_succ, List.getD_cons_zero, decide_true, decide_false, Bool.and_true, Bool.and_self, and_self, true_and, List.all_cons, List.all_nil, Bool.not_true, Bool.not_false, if_true, Bool.true_eq_false, Bool.false_eq_true, if_false, isBlock h1 h2 hl hX, hX.tup]
  rfl
/-! ### the lifts -/
def liftD (w : Int) (st : List Stp) : D := .ins "Lift" [("width", .int w), ("steps", stD st)]
theorem lkw {a b : D} : List.lookup ("width" : Str) [(("width" : Str), a), (("steps" : Str), b)] = some a := rfl
theorem lks {a b : D} : List.lookup ("steps" : Str) [(("width" : Str), a), (("steps" : Str), b)] = some b := rfl
theorem fldLW {w : Int} {st : List Stp} {ns : List Str} {g : F D} {s s1 : List Sl} (hn : ("Lift" : Str) ∈ ns) (e : g s = .ok (liftD w st) s1) : fldF ns "width" g s = .ok (.int w) s1 := by
  rw [ev_fld, e, R.bind_ok]
  unfold liftD
  dsimp only
  rw [if_pos hn, lkw, ev_toR1]
theorem fldLS {w : Int} {st : List Stp} {ns : List Str} {g : F D} {s s1 : List Sl} (hn : ("Lift" : Str) ∈ ns) (e : g s = .ok (liftD w st) s1) : fldF ns "steps" g s = .ok (stD st) s1 := by
  rw [ev_fld, e, R.bind_ok]
  unfold liftD
  dsimp only
  rw [if_pos hn, lks, ev_toR1]
theorem forth_loop {w : Int} {x0 x1 : D} (w6 : w ≤ 6) : ∀ (st : List Stp) (bs : List Int) (y3 : Sl), Pl y3 → (∀ s ∈ st, s.Ok w) → (bs.length : Int) = w → ∃ z3, forL (setA 3) g_Lift_forth_b1 (st.map Stp.d) [.va x0, .va x1, .ow (.l (bs.map D.int)), y3] = .nx [.va x0, .va x1, .ow (.l ((forthI st bs).map D.int)), z3]
  | [], bs, y3, _, _, _ => ⟨y3, rfl⟩
  | s :: st, bs, y3, q3, ok, hl => by
    have o := ok s List.mem_cons_self
    obtain ⟨z3, e⟩ := forth_loop (x0 := x0) (x1 := x1) w6 st (fo s bs) (.va s.d) Pl.va (fun t ht => ok t (List.mem_cons_of_mem _ ht)) (by rw [fo_len]; exact hl)
    refine ⟨z3, ?_⟩
    have t0 := o.t0
    have t1 := o.t1
    have i0 : ixD s.d (.int 0) = some (.int s.t) := rfl
    have hg : (bs.map D.int)[s.t.toNat]? = some (.int (bs.getD s.t.toNat 0)) := by
      rw [List.getElem?_map, List.getD_eq_getElem?_getD, List.getElem?_eq_getElem (show s.t.toNat < bs.length by omega)]
      rfl
    have h0 : (0 ≤ s.t) = True := eq_true t0
    have hlt : (s.t.toNat < (bs.map D.int).length) = True := eq_true (by rw [List.length_map]; omega)
    have sh := share_prog (X := .lst (bs.map D.int)) o w6 hl (.inr rfl)
    have ea : setA 3 s.d [.va x0, .va x1, .ow (.l (bs.map D.int)), y3] = some [.va x0, .va x1, .ow (.l (bs.map D.int)), .va s.d] := by simp only [ev_name, ev_c, ev_op2, ev_op1, ev_toR1, ev_toRL1, ev_nil, ev_cons, ev_opn, ev_opnN, ev_tup, ev_lst, ev_lstN, ev_new, ev_tst, ev_notT, ev_andT, ev_orT, ev_notF, ev_andF, ev_orF, ev_ifF, ev_yes, ev_iter, ev_rng1, ev_rng2, ev_rngW, ev_noP, ev_sl, ev_part, ev_next, ev_noG, ev_seq, ev_drop, ev_ret, ev_retN, ev_if, ev_asg, ev_setA, ev_nilA, ev_consA, ev_seqT, ev_seqL, ev_setN, ev_ok, ev_ioV, ev_ioU, ev_ioW, ev_owV, ev_owU, ev_own, ev_put, ev_ixOwn, ev_lenOwn, ev_setIx, ev_comp, ev_compL0, ev_compL1, ev_okC, ev_wipe1, ev_wipe0, ev_rest1, ev_rest0, ev_call, ev_callN, ev_ofr, ev_ofn, ev_ofnN, ev_mut, ev_mdl, ev_mdi, ev_io, ev_addI, ev_subI, ev_negI, ev_cmpI, ev_eqI, ev_neI, ev_eqS, ev_neS, ev_intI, ev_intB, ev_absI, ev_lenL, ev_lenT, ev_ixL, ev_ixT, ev_at0, ev_at1, ev_at2, ev_i30, ev_i31, ev_i32, ev_pk1, ev_pk2, ev_pk3, ev_pk4, ev_pkw1, ev_pkw2, ev_pkv2, ev_isI, ev_isN, ev_isB, ev_inI, ev_inN, ev_inB, ev_listT, ev_listL, ev_tupT, ev_tupL, ev_fld, ev_insAt, ev_fldOwn, ev_fldG, ev_meth, ev_make, ev_callL, ev_noLI, ev_nilL, ev_nameL, ev_lendL, ev_conL, ev_augIx, ev_putAt, ev_iadd, ev_isub, ev_revT, ev_enum, ev_zip, ev_seqDL, ev_seqDT, ev_nilM, ev_vaM, ev_owM, ev_parM, ev_app, ev_par, ev_par3, R.bind_ok, R.out_ok, Option.bind_some, List.getElem?_cons_succ, List.getElem?_cons_zero, List.set_cons_succ, List.set_cons_zero, List.length_cons, List.length_nil, Nat.reduceAdd, Nat.reduceEqDiff, List.getD_cons_succ, List.getD_cons_zero, decide_true, decide_false, Bool.and_true, Bool.and_self, and_self, true_and, List.all_cons, List.all_nil, Bool.not_true, Bool.not_false, if_true, Bool.true_eq_false, Bool.false_eq_true, if_false, q3.1]
    have eb : g_Lift_forth_b1 [.va x0, .va x1, .ow (.l (bs.map D.int)), .va s.d] = .nx [.va x0, .va x1, .ow (.l ((fo s bs).map D.int)), .va s.d] := by
      simp only [g_Lift_forth_b1, ev_name, ev_c, ev_op2, ev_op1, ev_toR1, ev_toRL1, ev_nil, ev_cons, ev_opn, ev_opnN, ev_tup, ev_lst, ev_lstN, ev_new, ev_tst, ev_notT, ev_andT, ev_orT, ev_notF, ev_andF, ev_orF, ev_ifF, ev_yes, ev_iter, ev_rng1, ev_rng2, ev_rngW, ev_noP, ev_sl, ev_part, ev_next, ev_noG, ev_seq, ev_drop, ev_ret, ev_retN, ev_if, ev_asg, ev_setA, ev_nilA, ev_consA, ev_seqT, ev_seqL, ev_setN, ev_ok, ev_ioV, ev_ioU, ev_ioW, ev_owV, ev_owU, ev_own, ev_put, ev_ixOwn, ev_lenOwn, ev_setIx, ev_comp, ev_compL0, ev_compL1, ev_okC, ev_wipe1, ev_wipe0, ev_rest1, ev_rest0, ev_call, ev_callN, ev_ofr, ev_ofn, ev_ofnN, ev_mut, ev_mdl, ev_mdi, ev_io, ev_addI, ev_subI, ev_negI, ev_cmpI, ev_eqI, ev_neI, ev_eqS, ev_neS, ev_intI, ev_intB, ev_absI, ev_lenL, ev_lenT, ev_ixL, ev_ixT, ev_at0, ev_at1, ev_at2, ev_i30, ev_i31, ev_i32, ev_pk1, ev_pk2, ev_pk3, ev_pk4, ev_pkw1, ev_pkw2, ev_pkv2, ev_isI, ev_isN, ev_isB, ev_inI, ev_inN, ev_inB, ev_listT, ev_listL, ev_tupT, ev_tupL, ev_fld, ev_insAt, ev_fldOwn, ev_fldG, ev_meth, ev_make, ev_callL, ev_noLI, ev_nilL, ev_nameL, ev_lendL, ev_conL, ev_augIx, ev_putAt, ev_iadd, ev_isub, ev_revT, ev_enum, ev_zip, ev_seqDL, ev_seqDT, ev_nilM, ev_vaM, ev_owM, ev_parM, ev_app, ev_par, ev_par3, R.bind_ok, R.out_ok, Option.bind_some, List.getElem?_cons_succ, List.getElem?_cons_zero, List.set_cons_succ, List.set_cons_zero, List.length_cons, List.length_nil, Nat.reduceAdd, Nat.reduceEqDiff, List.getD_cons_succ, List.getD_cons_zero, decide_true, decide_false, Bool.and_true, Bool.and_self, and_self, true_and, List.all_cons, List.all_nil, Bool.not_true, Bool.not_false, if_true, Bool.true_eq_false, Bool.false_eq_true, if_false, i0, hg, h0, hlt, sh]
      unfold fo
      rw [List.map_set]
    rw [List.map_cons, forL, ea]
    dsimp only
    rw [eb]
    exact e
theorem forthP {w : Int} {st : List Stp} {bs : List Int} {X : D} (h1 : 1 ≤ w) (h2 : w ≤ 6) (ok : ∀ s ∈ st, s.Ok w) (hl : (bs.length : Int) = w) (hX : SeqX X bs) : F_Lift_forth [liftD w st, X] = .ret (blD (forthI st bs)) (.l []) := by
  obtain ⟨z3, e⟩ := forth_loop (x0 := liftD w st) (x1 := X) h2 st bs .un Pl.un ok hl
  have f1 : ∀ y z : Sl, fldF ["Lift"] "width" (nameF 0) [.va (liftD w st), .va X, y, z] = .ok (.int w) [.va (liftD w st), .va X, y, z] := fun y z => fldLW (by decide) rfl
  have f2 : ∀ y z : Sl, fldF ["Lift"] "steps" (nameF 0) [.va (liftD w st), .va X, y, z] = .ok (stD st) [.va (liftD w st), .va X, y, z] := fun y z => fldLS (by decide) rfl
  have lb : listN [blD bs] = some (bs.map D.int) := rfl
  show outF false (g_Lift_forth [.va (liftD w st), .va X, .un, .un]) = _
  simp only [g_Lift_forth, ev_name, ev_c, ev_op2, ev_op1, ev_toR1, ev_toRL1, ev_nil, ev_cons, ev_opn, ev_opnN, ev_tup, ev_lst, ev_lstN, ev_new, ev_tst, ev_notT, ev_andT, ev_orT, ev_notF, ev_andF, ev_orF, ev_ifF, ev_yes, ev_iter, ev_rng1, ev_rng2, ev_rngW, ev_noP, ev_sl, ev_part, ev_next, ev_noG, ev_seq, ev_drop, ev_ret, ev_retN, ev_if, ev_asg, ev_setA, ev_nilA, ev_consA, ev_seqT, ev_seqL, ev_setN, ev_ok, ev_ioV, ev_ioU, ev_ioW, ev_owV, ev_owU, ev_own, ev_put, ev_ixOwn, ev_lenOwn, ev_setIx, ev_okC, ev_wipe1, ev_wipe0, ev_rest1, ev_rest0, ev_call, ev_callN, ev_ofr, ev_ofn, ev_ofnN, ev_mut, ev_mdl, ev_mdi, ev_io, ev_addI, ev_subI, ev_negI, ev_cmpI, ev_eqI, ev_neI, ev_eqS, ev_neS, ev_intI, ev_intB, ev_absI, ev_lenL, ev_lenT, ev_ixL, ev_ixT, ev_at0, ev_at1, ev_at2, ev_i30, ev_i31, ev_i32, ev_pk1, ev_pk2, ev_pk3, ev_pk4, ev_pkw1, ev_pkw2, ev_pkv2, ev_isI, ev_isN, ev_isB, ev_inI, ev_inN, ev_inB, ev_listT, ev_listL, ev_tupT, ev_tupL, ev_insAt, ev_fldOwn, ev_fldG, ev_meth, ev_make, ev_callL, ev_noLI, ev_nilL, ev_nameL, ev_lendL, ev_conL, ev_augIx, ev_putAt, ev_iadd, ev_isub, ev_revT, ev_enum, ev_zip, ev_seqDL, ev_seqDT, ev_nilM, ev_vaM, ev_owM, ev_parM, ev_app, ev_par, ev_par3, R.bind_ok, R.out_ok, Option.bind_some, List.getElem?_cons_succ, List.getElem?_cons_zero, List.set_cons_succ, List.set_cons_zero, List.length_cons, List.length_nil, Nat.reduceAdd, Nat.reduceEqDiff, List.getD_cons_succ, List.getD_cons_zero, decide_true, decide_false, Bool.and_true, Bool.and_self, and_self, true_and, List.all_cons, List.all_nil, Bool.not_true, Bool.not_false, if_true, Bool.true_eq_false, Bool.false_eq_true, if_false, ev_for, f1, f2, needBlock h1 h2 hl hX, lb]
  unfold stD at *
  simp only [ev_name, ev_c, ev_op2, ev_op1, ev_toR1, ev_toRL1, ev_nil, ev_cons, ev_opn, ev_opnN, ev_tup, ev_lst, ev_lstN, ev_new, ev_tst, ev_notT, ev_andT, ev_orT, ev_notF, ev_andF, ev_orF, ev_ifF, ev_yes, ev_iter, ev_rng1, ev_rng2, ev_rngW, ev_noP, ev_sl, ev_part, ev_next, ev_noG, ev_seq, ev_drop, ev_ret, ev_retN, ev_if, ev_asg, ev_setA, ev_nilA, ev_consA, ev_seqT, ev_seqL, ev_setN, ev_ok, ev_ioV, ev_ioU, ev_ioW, ev_owV, ev_owU, ev_own, ev_put, ev_ixOwn, ev_lenOwn, ev_setIx, ev_okC, ev_wipe1, ev_wipe0, ev_rest1, ev_rest0, ev_call, ev_callN, ev_ofr, ev_ofn, ev_ofnN, ev_mut, ev_mdl, ev_mdi, ev_io, ev_addI, ev_subI, ev_negI, ev_cmpI, ev_eqI, ev_neI, ev_eqS, ev_neS, ev_intI, ev_intB, ev_absI, ev_lenL, ev_lenT, ev_ixL, ev_ixT, ev_at0, ev_at1, ev_at2, ev_i30, ev_i31, ev_i32, ev_pk1, ev_pk2, ev_pk3, ev_pk4, ev_pkw1, ev_pkw2, ev_pkv2, ev_isI, ev_isN, ev_isB, ev_inI, ev_inN, ev_inB, ev_listT, ev_listL, ev_tupT, ev_tupL, ev_insAt, ev_fldOwn, ev_fldG, ev_meth, ev_make, ev_callL, ev_noLI, ev_nilL, ev_nameL, ev_lendL, ev_conL, ev_augIx, ev_putAt, ev_iadd, ev_isub, ev_revT, ev_enum, ev_zip, ev_seqDL, ev_seqDT, ev_nilM, ev_vaM, ev_owM, ev_parM, ev_app, ev_par, ev_par3, R.bind_ok, R.out_ok, Option.bind_some, List.getElem?_cons_succ, List.getElem?_cons_zero, List.set_cons_succ, List.set_cons_zero, List.length_cons, List.length_nil, Nat.reduceAdd, Nat.reduceEqDiff, List.getD_cons_succ, List.getD_cons_zero, decide_true, decide_false, Bool.and_true, Bool.and_self, and_self, true_and, List.all_cons, List.all_nil, Bool.not_true, Bool.not_false, if_true, Bool.true_eq_false, Bool.false_eq_true, if_false, e]
  rfl
/-! ### a lift is made -/
theorem slT1 {ds : List D} : slD (.tup ds) (some 1) none = some (.tup (ds.drop 1)) := by
  have e1 : HT.sIx ds.length 0 (some 1) = min 1 ds.length := HT.sIx_nat _ _ 1
  show (if _ then _ else _) = _
  unfold cutD
  rw [e1, HT.sIx_none]
  cases ds with
  | nil => rfl
  | cons d ds =>
    have h : min 1 (d :: ds).length = 1 := by rw [List.length_cons]; omega
    rw [h, if_neg (by omega), List.take_of_length_le (by rw [List.length_drop]; exact Nat.le_refl _)]
theorem zip_asc : ∀ {ps : List (Int × Int)}, ps.Pairwise (fun p q => p.1 < q.1) → ∀ d ∈ zipD (ps.map pairD) ((ps.map pairD).drop 1), ∃ p q : Int × Int, d = .tup [pairD p, pairD q] ∧ p.1 < q.1 := by
  intro ps h d hd
  obtain ⟨i, hi, e⟩ := List.getElem_of_mem hd
  obtain ⟨x, y, e1, e2, rfl⟩ := zipD_get (List.getElem?_eq_some_iff.mpr ⟨hi, e⟩)
  rw [List.getElem?_map] at e1
  rw [List.getElem?_drop, List.getElem?_map] at e2
  cases h1 : ps[i]? with
  | none => rw [h1] at e1; cases e1
  | some p =>
    cases h2 : ps[1 + i]? with
    | none => rw [h2] at e2; cases e2
    | some q =>
      rw [h1] at e1
      rw [h2] at e2
      cases e1
      cases e2
      obtain ⟨i1, g1⟩ := List.getElem?_eq_some_iff.mp h1
      obtain ⟨i2, g2⟩ := List.getElem?_eq_some_iff.mp h2
      have := List.pairwise_iff_getElem.mp h i (1 + i) i1 i2 (by omega)
      rw [g1, g2] at this
      exact ⟨p, q, rfl, this⟩
theorem areParts {w : Int} {s : Stp} (h1 : 1 ≤ w) (h2 : w ≤ 6) (ok : s.Ok w) : F_are_parts [.tup (s.ps.map pairD), .int s.t, .int w] = .ret (.bl true) (.l []) := by
  have hlen := ok.len
  obtain ⟨s', e, y3, rfl, q3⟩ := forL_keep (a := setA 3) (G1 := g_are_parts_b1) (I := fun s' => ∃ y3, s' = [.va (.tup (s.ps.map pairD)), .va (.int s.t), .va (.int w), y3, .un, .un] ∧ Pl y3) (s.ps.map pairD) [.va (.tup (s.ps.map pairD)), .va (.int s.t), .va (.int w), .un, .un, .un] ⟨.un, rfl, Pl.un⟩ (by
    rintro d hd s' ⟨y3, rfl, q3⟩
    obtain ⟨p, hp, rfl⟩ := List.mem_map.mp hd
    obtain ⟨p1, p2, p3, p4, p5, p6⟩ := ok.p.pr p hp
    have r2 : F_is_row [.tup [.int p.1, .int p.2], .int 2] = .ret (.bl true) (.l []) := isRowT (by show ((2 : Nat) : Int) ≤ 2; decide)
    have d1 : decide (p.1 = s.t) = false := decide_eq_false p3
    have d2 : decide (p.2 = 0) = false := decide_eq_false p6
    have dl : decide (((2 : Nat) : Int) = 2) = true := rfl
    refine ⟨[.va (.tup (s.ps.map pairD)), .va (.int s.t), .va (.int w), .va (pairD p), .un, .un], [.va (.tup (s.ps.map pairD)), .va (.int s.t), .va (.int w), .va (pairD p), .un, .un], by simp only [ev_name, ev_c, ev_op2, ev_op1, ev_toR1, ev_toRL1, ev_nil, ev_cons, ev_opn, ev_opnN, ev_tup, ev_lst, ev_lstN, ev_new, ev_tst, ev_notT, ev_andT, ev_orT, ev_notF, ev_andF, ev_orF, ev_ifF, ev_yes, ev_iter, ev_rng1, ev_rng2, ev_rngW, ev_noP, ev_sl, ev_part, ev_next, ev_noG, ev_seq, ev_drop, ev_ret, ev_retN, ev_if, ev_asg, ev_setA, ev_nilA, ev_consA, ev_seqT, ev_seqL, ev_setN, ev_ok, ev_ioV, ev_ioU, ev_ioW, ev_owV, ev_owU, ev_own, ev_put, ev_ixOwn, ev_lenOwn, ev_setIx, ev_comp, ev_compL0, ev_compL1, ev_okC, ev_wipe1, ev_wipe0, ev_rest1, ev_rest0, ev_call, ev_callN, ev_ofr, ev_ofn, ev_ofnN, ev_mut, ev_mdl, ev_mdi, ev_io, ev_addI, ev_subI, ev_negI, ev_cmpI, ev_eqI, ev_neI, ev_eqS, ev_neS, ev_intI, ev_intB, ev_absI, ev_lenL, ev_lenT, ev_ixL, ev_ixT, ev_at0, ev_at1, ev_at2, ev_i30, ev_i31, ev_i32, ev_pk1, ev_pk2, ev_pk3, ev_pk4, ev_pkw1, ev_pkw2, ev_pkv2, ev_isI, ev_isN, ev_isB, ev_inI, ev_inN, ev_inB, ev_listT, ev_listL, ev_tupT, ev_tupL, ev_fld, ev_insAt, ev_fldOwn, ev_fldG, ev_meth, ev_make, ev_callL, ev_noLI, ev_nilL, ev_nameL, ev_lendL, ev_conL, ev_augIx, ev_putAt, ev_iadd, ev_isub, ev_revT, ev_enum, ev_zip, ev_seqDL, ev_seqDT, ev_nilM, ev_vaM, ev_owM, ev_parM, ev_app, ev_par, ev_par3, R.bind_ok, R.out_ok, Option.bind_some, List.getElem?_cons_succ, List.getElem?_cons_zero, List.set_cons_succ, List.set_cons_zero, List.length_cons, List.length_nil, Nat.reduceAdd, Nat.reduceEqDiff, List.getD_cons_succ, List.getD_cons_zero, decide_true, decide_false, Bool.and_true, Bool.and_self, and_self, true_and, List.all_cons, List.all_nil, Bool.not_true, Bool.not_false, if_true, Bool.true_eq_false, Bool.false_eq_true, if_false, q3.1], .inl ?_, .va (pairD p), rfl, Pl.va⟩
    unfold pairD
    simp only [g_are_parts_b1, ev_name, ev_c, ev_op2, ev_op1, ev_toR1, ev_toRL1, ev_nil, ev_cons, ev_opn, ev_opnN, ev_tup, ev_lst, ev_lstN, ev_new, ev_tst, ev_notT, ev_andT, ev_orT, ev_notF, ev_andF, ev_orF, ev_ifF, ev_yes, ev_iter, ev_rng1, ev_rng2, ev_rngW, ev_noP, ev_sl, ev_part, ev_next, ev_noG, ev_seq, ev_drop, ev_ret, ev_retN, ev_if, ev_asg, ev_setA, ev_nilA, ev_consA, ev_seqT, ev_seqL, ev_setN, ev_ok, ev_ioV, ev_ioU, ev_ioW, ev_owV, ev_owU, ev_own, ev_put, ev_ixOwn, ev_lenOwn, ev_setIx, ev_comp, ev_compL0, ev_compL1, ev_okC, ev_wipe1, ev_wipe0, ev_rest1, ev_rest0, ev_call, ev_callN, ev_ofr, ev_ofn, ev_ofnN, ev_mut, ev_mdl, ev_mdi, ev_io, ev_addI, ev_subI, ev_negI, ev_cmpI, ev_eqI, ev_neI, ev_eqS, ev_neS, ev_intI, ev_intB, ev_absI, ev_lenL, ev_lenT, ev_ixL, ev_ixT, ev_at0, ev_at1, ev_at2, ev_i30, ev_i31, ev_i32, ev_pk1, ev_pk2, ev_pk3, ev_pk4, ev_pkw1, ev_pkw2, ev_pkv2, ev_isI, ev_isN, ev_isB, ev_inI, ev_inN, ev_inB, ev_listT, ev_listL, ev_tupT, ev_tupL, ev_fld, ev_insAt, ev_fldOwn, ev_fldG, ev_meth, ev_make, ev_callL, ev_noLI, ev_nilL, ev_nameL, ev_lendL, ev_conL, ev_augIx, ev_putAt, ev_iadd, ev_isub, ev_revT, ev_enum, ev_zip, ev_seqDL, ev_seqDT, ev_nilM, ev_vaM, ev_owM, ev_parM, ev_app, ev_par, ev_par3, R.bind_ok, R.out_ok, Option.bind_some, List.getElem?_cons_succ, List.getElem?_cons_zero, List.set_cons_succ, List.set_cons_zero, List.length_cons, List.length_nil, Nat.reduceAdd, Nat.reduceEqDiff, List.getD_cons_succ, List.getD_cons_zero, decide_true, decide_false, Bool.and_true, Bool.and_self, and_self, true_and, List.all_cons, List.all_nil, Bool.not_true, Bool.not_false, if_true, Bool.true_eq_false, Bool.false_eq_true, if_false, r2, isSlot h1 h2 p1 p2, within p4 p5, d1, d2, dl])
  have c : compN (zipF (nameF 0) (slF (nameF 0) (partF (cF (.int 1))) noPartF)) [4, 5] (seqA 2 (consA (setA 4) (consA (setA 5) nilA))) yesT (op2F ltD (op2F ixD (nameF 4) (cF (.int 0))) (op2F ixD (nameF 5) (cF (.int 0)))) [.va (.tup (s.ps.map pairD)), .va (.int s.t), .va (.int w), y3, .un, .un] =
      .ok ((zipD (s.ps.map pairD) ((s.ps.map pairD).drop 1)).map fun _ => D.bl true) [.va (.tup (s.ps.map pairD)), .va (.int s.t), .va (.int w), y3, .un, .un] := by
    refine compN_pure (fun _ => D.bl true) (s1 := [.va (.tup (s.ps.map pairD)), .va (.int s.t), .va (.int w), y3, .un, .un]) (ds := zipD (s.ps.map pairD) ((s.ps.map pairD).drop 1)) ?_ ?_ rfl (fun s' => ∃ y z, s' = [.va (.tup (s.ps.map pairD)), .va (.int s.t), .va (.int w), y3, y, z]) ⟨.un, .un, rfl⟩ (fun s' ⟨y, z, e⟩ => by rw [e]; rfl) ?_
    · simp only [ev_name, ev_c, ev_op2, ev_op1, ev_toR1, ev_toRL1, ev_nil, ev_cons, ev_opn, ev_opnN, ev_tup, ev_lst, ev_lstN, ev_new, ev_tst, ev_notT, ev_andT, ev_orT, ev_notF, ev_andF, ev_orF, ev_ifF, ev_yes, ev_iter, ev_rng1, ev_rng2, ev_rngW, ev_noP, ev_sl, ev_part, ev_next, ev_noG, ev_seq, ev_drop, ev_ret, ev_retN, ev_if, ev_asg, ev_setA, ev_nilA, ev_consA, ev_seqT, ev_seqL, ev_setN, ev_ok, ev_ioV, ev_ioU, ev_ioW, ev_owV, ev_owU, ev_own, ev_put, ev_ixOwn, ev_lenOwn, ev_setIx, ev_comp, ev_compL0, ev_compL1, ev_okC, ev_wipe1, ev_wipe0, ev_rest1, ev_rest0, ev_call, ev_callN, ev_ofr, ev_ofn, ev_ofnN, ev_mut, ev_mdl, ev_mdi, ev_io, ev_addI, ev_subI, ev_negI, ev_cmpI, ev_eqI, ev_neI, ev_eqS, ev_neS, ev_intI, ev_intB, ev_absI, ev_lenL, ev_lenT, ev_ixL, ev_ixT, ev_at0, ev_at1, ev_at2, ev_i30, ev_i31, ev_i32, ev_pk1, ev_pk2, ev_pk3, ev_pk4, ev_pkw1, ev_pkw2, ev_pkv2, ev_isI, ev_isN, ev_isB, ev_inI, ev_inN, ev_inB, ev_listT, ev_listL, ev_tupT, ev_tupL, ev_fld, ev_insAt, ev_fldOwn, ev_fldG, ev_meth, ev_make, ev_callL, ev_noLI, ev_nilL, ev_nameL, ev_lendL, ev_conL, ev_augIx, ev_putAt, ev_iadd, ev_isub, ev_revT, ev_enum, ev_zip, ev_seqDL, ev_seqDT, ev_nilM, ev_vaM, ev_owM, ev_parM, ev_app, ev_par, ev_par3, R.bind_ok, R.out_ok, Option.bind_some, List.getElem?_cons_succ, List.getElem?_cons_zero, List.set_cons_succ, List.set_cons_zero, List.length_cons, List.length_nil, Nat.reduceAdd, Nat.reduceEqDiff, List.getD_cons_succ, List.getD_cons_zero, decide_true, decide_false, Bool.and_true, Bool.and_self, and_self, true_and, List.all_cons, List.all_nil, Bool.not_true, Bool.not_false, if_true, Bool.true_eq_false, Bool.false_eq_true, if_false, slT1]
    · rw [zipD_length, List.length_map, sizeLine_eq]
      omega
    · rintro d hd s' ⟨y, z, rfl⟩
      obtain ⟨p, q, rfl, hpq⟩ := zip_asc ok.p.asc d hd
      have d1 : decide (p.1 < q.1) = true := decide_eq_true hpq
      refine ⟨_, _, _, rfl, rfl, ?_, .va (pairD p), .va (pairD q), rfl⟩
      unfold pairD
      simp only [ev_name, ev_c, ev_op2, ev_op1, ev_toR1, ev_toRL1, ev_nil, ev_cons, ev_opn, ev_opnN, ev_tup, ev_lst, ev_lstN, ev_new, ev_tst, ev_notT, ev_andT, ev_orT, ev_notF, ev_andF, ev_orF, ev_ifF, ev_yes, ev_iter, ev_rng1, ev_rng2, ev_rngW, ev_noP, ev_sl, ev_part, ev_next, ev_noG, ev_seq, ev_drop, ev_ret, ev_retN, ev_if, ev_asg, ev_setA, ev_nilA, ev_consA, ev_seqT, ev_seqL, ev_setN, ev_ok, ev_ioV, ev_ioU, ev_ioW, ev_owV, ev_owU, ev_own, ev_put, ev_ixOwn, ev_lenOwn, ev_setIx, ev_comp, ev_compL0, ev_compL1, ev_okC, ev_wipe1, ev_wipe0, ev_rest1, ev_rest0, ev_call, ev_callN, ev_ofr, ev_ofn, ev_ofnN, ev_mut, ev_mdl, ev_mdi, ev_io, ev_addI, ev_subI, ev_negI, ev_cmpI, ev_eqI, ev_neI, ev_eqS, ev_neS, ev_intI, ev_intB, ev_absI, ev_lenL, ev_lenT, ev_ixL, ev_ixT, ev_at0, ev_at1, ev_at2, ev_i30, ev_i31, ev_i32, ev_pk1, ev_pk2, ev_pk3, ev_pk4, ev_pkw1, ev_pkw2, ev_pkv2, ev_isI, ev_isN, ev_isB, ev_inI, ev_inN, ev_inB, ev_listT, ev_listL, ev_tupT, ev_tupL, ev_fld, ev_insAt, ev_fldOwn, ev_fldG, ev_meth, ev_make, ev_callL, ev_noLI, ev_nilL, ev_nameL, ev_lendL, ev_conL, ev_augIx, ev_putAt, ev_iadd, ev_isub, ev_revT, ev_enum, ev_zip, ev_seqDL, ev_seqDT, ev_nilM, ev_vaM, ev_owM, ev_parM, ev_app, ev_par, ev_par3, R.bind_ok, R.out_ok, Option.bind_some, List.getElem?_cons_succ, List.getElem?_cons_zero, List.set_cons_succ, List.set_cons_zero, List.length_cons, List.length_nil, Nat.reduceAdd, Nat.reduceEqDiff, List.getD_cons_succ, List.getD_cons_zero, decide_true, decide_false, Bool.and_true, Bool.and_self, and_self, true_and, List.all_cons, List.all_nil, Bool.not_true, Bool.not_false, if_true, Bool.true_eq_false, Bool.false_eq_true, if_false, d1]
  have rr : F_is_row [.tup (s.ps.map pairD), .int (w - 1)] = .ret (.bl true) (.l []) := isRowT (by rw [List.length_map]; exact hlen)
  show outF false (g_are_parts [.va (.tup (s.ps.map pairD)), .va (.int s.t), .va (.int w), .un, .un, .un]) = _
  simp only [g_are_parts, ev_name, ev_c, ev_op2, ev_op1, ev_toR1, ev_toRL1, ev_nil, ev_cons, ev_opn, ev_opnN, ev_tup, ev_lst, ev_lstN, ev_new, ev_tst, ev_notT, ev_andT, ev_orT, ev_notF, ev_andF, ev_orF, ev_ifF, ev_yes, ev_iter, ev_rng1, ev_rng2, ev_rngW, ev_noP, ev_sl, ev_part, ev_next, ev_noG, ev_seq, ev_drop, ev_ret, ev_retN, ev_if, ev_asg, ev_setA, ev_nilA, ev_consA, ev_seqT, ev_seqL, ev_setN, ev_ok, ev_ioV, ev_ioU, ev_ioW, ev_owV, ev_owU, ev_own, ev_put, ev_ixOwn, ev_lenOwn, ev_setIx, ev_okC, ev_wipe1, ev_wipe0, ev_rest1, ev_rest0, ev_call, ev_callN, ev_ofr, ev_ofn, ev_ofnN, ev_mut, ev_mdl, ev_mdi, ev_io, ev_addI, ev_subI, ev_negI, ev_cmpI, ev_eqI, ev_neI, ev_eqS, ev_neS, ev_intI, ev_intB, ev_absI, ev_lenL, ev_lenT, ev_ixL, ev_ixT, ev_at0, ev_at1, ev_at2, ev_i30, ev_i31, ev_i32, ev_pk1, ev_pk2, ev_pk3, ev_pk4, ev_pkw1, ev_pkw2, ev_pkv2, ev_isI, ev_isN, ev_isB, ev_inI, ev_inN, ev_inB, ev_listT, ev_listL, ev_tupT, ev_tupL, ev_fld, ev_insAt, ev_fldOwn, ev_fldG, ev_meth, ev_make, ev_callL, ev_noLI, ev_nilL, ev_nameL, ev_lendL, ev_conL, ev_augIx, ev_putAt, ev_iadd, ev_isub, ev_revT, ev_enum, ev_zip, ev_seqDL, ev_seqDT, ev_nilM, ev_vaM, ev_owM, ev_parM, ev_app, ev_par, ev_par3, R.bind_ok, R.out_ok, Option.bind_some, List.getElem?_cons_succ, List.getElem?_cons_zero, List.set_cons_succ, List.set_cons_zero, List.length_cons, List.length_nil, Nat.reduceAdd, Nat.reduceEqDiff, List.getD_cons_succ, List.getD_cons_zero, decide_true, decide_false, Bool.and_true, Bool.and_self, and_self, true_and, List.all_cons, List.all_nil, Bool.not_true, Bool.not_false, if_true, Bool.true_eq_false, Bool.false_eq_true, if_false, ev_for, rr, e, c, all_true]
  rfl
theorem isStep {w : Int} {s : Stp} (h1 : 1 ≤ w) (h2 : w ≤ 6) (ok : s.Ok w) : F_is_step [s.d, .int w] = .ret (.bl true) (.l []) := by
  have r4 : F_is_row [.tup [.int s.t, .tup (s.ps.map pairD), .int s.a, .int s.o], .int 4] = .ret (.bl true) (.l []) := isRowT (by show ((4 : Nat) : Int) ≤ 4; decide)
  have dl : decide (((4 : Nat) : Int) = 4) = true := rfl
  have i3 : ixD (.tup [.int s.t, .tup (s.ps.map pairD), .int s.a, .int s.o]) (.int 3) = some (.int s.o) := rfl
  show outF false (g_is_step [.va (.tup [.int s.t, .tup (s.ps.map pairD), .int s.a, .int s.o]), .va (.int w)]) = _
  simp only [g_is_step, ev_name, ev_c, ev_op2, ev_op1, ev_toR1, ev_toRL1, ev_nil, ev_cons, ev_opn, ev_opnN, ev_tup, ev_lst, ev_lstN, ev_new, ev_tst, ev_notT, ev_andT, ev_orT, ev_notF, ev_andF, ev_orF, ev_ifF, ev_yes, ev_iter, ev_rng1, ev_rng2, ev_rngW, ev_noP, ev_sl, ev_part, ev_next, ev_noG, ev_seq, ev_drop, ev_ret, ev_retN, ev_if, ev_asg, ev_setA, ev_nilA, ev_consA, ev_seqT, ev_seqL, ev_setN, ev_ok, ev_ioV, ev_ioU, ev_ioW, ev_owV, ev_owU, ev_own, ev_put, ev_ixOwn, ev_lenOwn, ev_setIx, ev_comp, ev_compL0, ev_compL1, ev_okC, ev_wipe1, ev_wipe0, ev_rest1, ev_rest0, ev_call, ev_callN, ev_ofr, ev_ofn, ev_ofnN, ev_mut, ev_mdl, ev_mdi, ev_io, ev_addI, ev_subI, ev_negI, ev_cmpI, ev_eqI, ev_neI, ev_eqS, ev_neS, ev_intI, ev_intB, ev_absI, ev_lenL, ev_lenT, ev_ixL, ev_ixT, ev_at0, ev_at1, ev_at2, ev_i30, ev_i31, ev_i32, ev_pk1, ev_pk2, ev_pk3, ev_pk4, ev_pkw1, ev_pkw2, ev_pkv2, ev_isI, ev_isN, ev_isB, ev_inI, ev_inN, ev_inB, ev_listT, ev_listL, ev_tupT, ev_tupL, ev_fld, ev_insAt, ev_fldOwn, ev_fldG, ev_meth, ev_make, ev_callL, ev_noLI, ev_nilL, ev_nameL, ev_lendL, ev_conL, ev_augIx, ev_putAt, ev_iadd, ev_isub, ev_revT, ev_enum, ev_zip, ev_seqDL, ev_seqDT, ev_nilM, ev_vaM, ev_owM, ev_parM, ev_app, ev_par, ev_par3, R.bind_ok, R.out_ok, Option.bind_some, List.getElem?_cons_succ, List.getElem?_cons_zero, List.set_cons_succ, List.set_cons_zero, List.length_cons, List.length_nil, Nat.reduceAdd, Nat.reduceEqDiff, List.getD_cons_succ, List.getD_cons_zero, decide_true, decide_false, Bool.and_true, Bool.and_self, and_self, true_and, List.all_cons, List.all_nil, Bool.not_true, Bool.not_false, if_true, Bool.true_eq_false, Bool.false_eq_true, if_false, i3, needWidth h1 h2, r4, dl, isSlot h1 h2 ok.t0 ok.t1, areParts h1 h2 ok, within ok.a0 ok.a1, within ok.o0 ok.o1]
  rfl
/-- steps as a list or a tuple -/
def SeqS (X : D) (ds : List D) : Prop := X = .tup ds ∨ X = .lst ds
theorem SeqS.seq {X : D} {bs : List D} (h : SeqS X bs) : seqD X = some bs := by rcases h with rfl | rfl <;> rfl
theorem SeqS.isi {X : D} {bs : List D} (h : SeqS X bs) : isiD [X, .tup [.ty "list", .ty "tuple"]] = some (.bl true) := by rcases h with rfl | rfl <;> rfl
theorem SeqS.len {X : D} {bs : List D} (h : SeqS X bs) : lenD [X] = some (.int bs.length) := by rcases h with rfl | rfl <;> rfl
theorem SeqS.tup {X : D} {bs : List D} (h : SeqS X bs) : tupleD [X] = some (.tup bs) := by rcases h with rfl | rfl <;> rfl
theorem SeqS.list {X : D} {bs : List D} (h : SeqS X bs) : listN [X] = some bs := by rcases h with rfl | rfl <;> rfl
theorem SeqS.iter {X : D} {bs : List D} {s s1 : List Sl} {f : F D} (h : SeqS X bs) (e : f s = .ok X s1) : iterF f s = .ok bs s1 := by
  rw [ev_iter, e]
  rcases h with rfl | rfl <;> rfl
theorem enum_mem {ds : List D} {d : D} (h : d ∈ enumD ds) : ∃ (i : Nat) (x : D), x ∈ ds ∧ d = .tup [.int (i : Nat), x] := by
  obtain ⟨i, hi, e⟩ := List.getElem_of_mem h
  obtain ⟨x, h1, h2⟩ := enumD_get (List.getElem?_eq_some_iff.mpr ⟨hi, e⟩)
  exact ⟨i, x, List.mem_of_getElem? h1, h2⟩
theorem needSteps {w : Int} {st : List Stp} {X : D} (h1 : 1 ≤ w) (h2 : w ≤ 6) (ok : ∀ s ∈ st, s.Ok w) (hl : st.length ≤ 12) (hX : SeqS X (st.map Stp.d)) : F_need_steps [X, .int w] = .ret (stD st) (.l []) := by
  obtain ⟨s', e, y2, y3, rfl, q2, q3⟩ := forL_keep (a := seqA 2 (consA (setA 2) (consA (setA 3) nilA))) (G1 := g_need_steps_b1) (I := fun s' => ∃ y2 y3, s' = [.va X, .va (.int w), y2, y3, .un] ∧ Pl y2 ∧ Pl y3) (enumD (st.map Stp.d)) [.va X, .va (.int w), .un, .un, .un] ⟨.un, .un, rfl, Pl.un, Pl.un⟩ (by
    rintro d hd s' ⟨y2, y3, rfl, q2, q3⟩
    obtain ⟨i, x, hx, rfl⟩ := enum_mem hd
    obtain ⟨s, hs, rfl⟩ := List.mem_map.mp hx
    refine ⟨[.va X, .va (.int w), .va (.int i), .va s.d, .un], [.va X, .va (.int w), .va (.int i), .va s.d, .un], by simp only [ev_name, ev_c, ev_op2, ev_op1, ev_toR1, ev_toRL1, ev_nil, ev_cons, ev_opn, ev_opnN, ev_tup, ev_lst, ev_lstN, ev_new, ev_tst, ev_notT, ev_andT, ev_orT, ev_notF, ev_andF, ev_orF, ev_ifF, ev_yes, ev_iter, ev_rng1, ev_rng2, ev_rngW, ev_noP, ev_sl, ev_part, ev_next, ev_noG, ev_seq, ev_drop, ev_ret, ev_retN, ev_if, ev_asg, ev_setA, ev_nilA, ev_consA, ev_seqT, ev_seqL, ev_setN, ev_ok, ev_ioV, ev_ioU, ev_ioW, ev_owV, ev_owU, ev_own, ev_put, ev_ixOwn, ev_lenOwn, ev_setIx, ev_comp, ev_compL0, ev_compL1, ev_okC, ev_wipe1, ev_wipe0, ev_rest1, ev_rest0, ev_call, ev_callN, ev_ofr, ev_ofn, ev_ofnN, ev_mut, ev_mdl, ev_mdi, ev_io, ev_addI, ev_subI, ev_negI, ev_cmpI, ev_eqI, ev_neI, ev_eqS, ev_neS, ev_intI, ev_intB, ev_absI, ev_lenL, ev_lenT, ev_ixL, ev_ixT, ev_at0, ev_at1, ev_at2, ev_i30, ev_i31, ev_i32, ev_pk1, ev_pk2, ev_pk3, ev_pk4, ev_pkw1, ev_pkw2, ev_pkv2, ev_isI, ev_isN, ev_isB, ev_inI, ev_inN, ev_inB, ev_listT, ev_listL, ev_tupT, ev_tupL, ev_fld, ev_insAt, ev_fldOwn, ev_fldG, ev_meth, ev_make, ev_callL, ev_noLI, ev_nilL, ev_nameL, ev_lendL, ev_conL, ev_augIx, ev_putAt, ev_iadd, ev_isub, ev_revT, ev_enum, ev_zip, ev_seqDL, ev_seqDT, ev_nilM, ev_vaM, ev_owM, ev_parM, ev_app, ev_par, ev_par3, R.bind_ok, R.out_ok, Option.bind_some, List.getElem?_cons_succ, List.getElem?_cons_zero, List.set_cons_succ, List.set_cons_zero, List.length_cons, List.length_nil, Nat.reduceAdd, Nat.reduceEqDiff, List.getD_cons_succ, List.getD_cons_zero, decide_true, decide_false, Bool.and_true, Bool.and_self, and_self, true_and, List.all_cons, List.all_nil, Bool.not_true, Bool.not_false, if_true, Bool.true_eq_false, Bool.false_eq_true, if_false, q2.1, q3.1], .inl ?_, .va (.int i), .va s.d, rfl, Pl.va, Pl.va⟩
    simp only [g_need_steps_b1, ev_name, ev_c, ev_op2, ev_op1, ev_toR1, ev_toRL1, ev_nil, ev_cons, ev_opn, ev_opnN, ev_tup, ev_lst, ev_lstN, ev_new, ev_tst, ev_notT, ev_andT, ev_orT, ev_notF, ev_andF, ev_orF, ev_ifF, ev_yes, ev_iter, ev_rng1, ev_rng2, ev_rngW, ev_noP, ev_sl, ev_part, ev_next, ev_noG, ev_seq, ev_drop, ev_ret, ev_retN, ev_if, ev_asg, ev_setA, ev_nilA, ev_consA, ev_seqT, ev_seqL, ev_setN, ev_ok, ev_ioV, ev_ioU, ev_ioW, ev_owV, ev_owU, ev_own, ev_put, ev_ixOwn, ev_lenOwn, ev_setIx, ev_comp, ev_compL0, ev_compL1, ev_okC, ev_wipe1, ev_wipe0, ev_rest1, ev_rest0, ev_call, ev_callN, ev_ofr, ev_ofn, ev_ofnN, ev_mut, ev_mdl, ev_mdi, ev_io, ev_addI, ev_subI, ev_negI, ev_cmpI, ev_eqI, ev_neI, ev_eqS, ev_neS, ev_intI, ev_intB, ev_absI, ev_lenL, ev_lenT, ev_ixL, ev_ixT, ev_at0, ev_at1, ev_at2, ev_i30, ev_i31, ev_i32, ev_pk1, ev_pk2, ev_pk3, ev_pk4, ev_pkw1, ev_pkw2, ev_pkv2, ev_isI, ev_isN, ev_isB, ev_inI, ev_inN, ev_inB, ev_listT, ev_listL, ev_tupT, ev_tupL, ev_fld, ev_insAt, ev_fldOwn, ev_fldG, ev_meth, ev_make, ev_callL, ev_noLI, ev_nilL, ev_nameL, ev_lendL, ev_conL, ev_augIx, ev_putAt, ev_iadd, ev_isub, ev_revT, ev_enum, ev_zip, ev_seqDL, ev_seqDT, ev_nilM, ev_vaM, ev_owM, ev_parM, ev_app, ev_par, ev_par3, R.bind_ok, R.out_ok, Option.bind_some, List.getElem?_cons_succ, List.getElem?_cons_zero, List.set_cons_succ, List.set_cons_zero, List.length_cons, List.length_nil, Nat.reduceAdd, Nat.reduceEqDiff, List.getD_cons_succ, List.getD_cons_zero, decide_true, decide_false, Bool.and_true, Bool.and_self, and_self, true_and, List.all_cons, List.all_nil, Bool.not_true, Bool.not_false, if_true, Bool.true_eq_false, Bool.false_eq_true, if_false, isStep h1 h2 (ok s hs)])
  have c : compN (iterF (nameF 0)) [3] (setA 3) yesT (tupF (consF (op2F ixD (nameF 3) (cF (.int 0))) (consF (opnF tupleD (consF (lstF' (compN (iterF (op2F ixD (nameF 3) (cF (.int 1)))) [4] (setA 4) yesT (opnF tupleD (consF (nameF 4) nilF)))) nilF)) (consF (op2F ixD (nameF 3) (cF (.int 2))) (consF (op2F ixD (nameF 3) (cF (.int 3))) nilF))))) [.va X, .va (.int w), y2, y3, .un] = .ok ((st.map Stp.d).map id) [.va X, .va (.int w), y2, y3, .un] := by
    refine compN_1 id (hX.iter rfl) (by rw [List.length_map, sizeLine_eq]; omega) (y0 := y3) rfl q3 rfl fun d hd => ?_
    obtain ⟨s, hs, rfl⟩ := List.mem_map.mp hd
    have hlen := (ok s hs).len
    have i0 : ixD s.d (.int 0) = some (.int s.t) := rfl
    have i1 : ixD s.d (.int 1) = some (.tup (s.ps.map pairD)) := rfl
    have i2 : ixD s.d (.int 2) = some (.int s.a) := rfl
    have i3 : ixD s.d (.int 3) = some (.int s.o) := rfl
    have c2 : compN (iterF (op2F ixD (nameF 3) (cF (.int 1)))) [4] (setA 4) yesT (opnF tupleD (consF (nameF 4) nilF)) [.va X, .va (.int w), y2, .va s.d, .un] = .ok ((s.ps.map pairD).map id) [.va X, .va (.int w), y2, .va s.d, .un] := by
      refine compN_1 id (by simp only [ev_name, ev_c, ev_op2, ev_op1, ev_toR1, ev_toRL1, ev_nil, ev_cons, ev_opn, ev_opnN, ev_tup, ev_lst, ev_lstN, ev_new, ev_tst, ev_notT, ev_andT, ev_orT, ev_notF, ev_andF, ev_orF, ev_ifF, ev_yes, ev_iter, ev_rng1, ev_rng2, ev_rngW, ev_noP, ev_sl, ev_part, ev_next, ev_noG, ev_seq, ev_drop, ev_ret, ev_retN, ev_if, ev_asg, ev_setA, ev_nilA, ev_consA, ev_seqT, ev_seqL, ev_setN, ev_ok, ev_ioV, ev_ioU, ev_ioW, ev_owV, ev_owU, ev_own, ev_put, ev_ixOwn, ev_lenOwn, ev_setIx, ev_comp, ev_compL0, ev_compL1, ev_okC, ev_wipe1, ev_wipe0, ev_rest1, ev_rest0, ev_call, ev_callN, ev_ofr, ev_ofn, ev_ofnN, ev_mut, ev_mdl, ev_mdi, ev_io, ev_addI, ev_subI, ev_negI, ev_cmpI, ev_eqI, ev_neI, ev_eqS, ev_neS, ev_intI, ev_intB, ev_absI, ev_lenL, ev_lenT, ev_ixL, ev_ixT, ev_at0, ev_at1, ev_at2, ev_i30, ev_i31, ev_i32, ev_pk1, ev_pk2, ev_pk3, ev_pk4, ev_pkw1, ev_pkw2, ev_pkv2, ev_isI, ev_isN, ev_isB, ev_inI, ev_inN, ev_inB, ev_listT, ev_listL, ev_tupT, ev_tupL, ev_fld, ev_insAt, ev_fldOwn, ev_fldG, ev_meth, ev_make, ev_callL, ev_noLI, ev_nilL, ev_nameL, ev_lendL, ev_conL, ev_augIx, ev_putAt, ev_iadd, ev_isub, ev_revT, ev_enum, ev_zip, ev_seqDL, ev_seqDT, ev_nilM, ev_vaM, ev_owM, ev_parM, ev_app, ev_par, ev_par3, R.bind_ok, R.out_ok, Option.bind_some, List.getElem?_cons_succ, List.getElem?_cons_zero, List.set_cons_succ, List.set_cons_zero, List.length_cons, List.length_nil, Nat.reduceAdd, Nat.reduceEqDiff, List.getD_cons_succ, List.getD_cons_zero, decide_true, decide_false, Bool.and_true, Bool.and_self, and_self, true_and, List.all_cons, List.all_nil, Bool.not_true, Bool.not_false, if_true, Bool.true_eq_false, Bool.false_eq_true, if_false, i1]) (by rw [List.length_map, sizeLine_eq]; omega) (y0 := .un) rfl Pl.un rfl fun d hd => ?_
      obtain ⟨p, hp, rfl⟩ := List.mem_map.mp hd
      rfl
    rw [List.map_id] at c2
    show tupF _ [.va X, .va (.int w), y2, .va s.d, .un] = _
    simp only [ev_name, ev_c, ev_op2, ev_op1, ev_toR1, ev_toRL1, ev_nil, ev_cons, ev_opn, ev_opnN, ev_tup, ev_lst, ev_lstN, ev_new, ev_tst, ev_notT, ev_andT, ev_orT, ev_notF, ev_andF, ev_orF, ev_ifF, ev_yes, ev_iter, ev_rng1, ev_rng2, ev_rngW, ev_noP, ev_sl, ev_part, ev_next, ev_noG, ev_seq, ev_drop, ev_ret, ev_retN, ev_if, ev_asg, ev_setA, ev_nilA, ev_consA, ev_seqT, ev_seqL, ev_setN, ev_ok, ev_ioV, ev_ioU, ev_ioW, ev_owV, ev_owU, ev_own, ev_put, ev_ixOwn, ev_lenOwn, ev_setIx, ev_okC, ev_wipe1, ev_wipe0, ev_rest1, ev_rest0, ev_call, ev_callN, ev_ofr, ev_ofn, ev_ofnN, ev_mut, ev_mdl, ev_mdi, ev_io, ev_addI, ev_subI, ev_negI, ev_cmpI, ev_eqI, ev_neI, ev_eqS, ev_neS, ev_intI, ev_intB, ev_absI, ev_lenL, ev_lenT, ev_ixL, ev_ixT, ev_at0, ev_at1, ev_at2, ev_i30, ev_i31, ev_i32, ev_pk1, ev_pk2, ev_pk3, ev_pk4, ev_pkw1, ev_pkw2, ev_pkv2, ev_isI, ev_isN, ev_isB, ev_inI, ev_inN, ev_inB, ev_listT, ev_listL, ev_tupT, ev_tupL, ev_fld, ev_insAt, ev_fldOwn, ev_fldG, ev_meth, ev_make, ev_callL, ev_noLI, ev_nilL, ev_nameL, ev_lendL, ev_conL, ev_augIx, ev_putAt, ev_iadd, ev_isub, ev_revT, ev_enum, ev_zip, ev_seqDL, ev_seqDT, ev_nilM, ev_vaM, ev_owM, ev_parM, ev_app, ev_par, ev_par3, R.bind_ok, R.out_ok, Option.bind_some, List.getElem?_cons_succ, List.getElem?_cons_zero, List.set_cons_succ, List.set_cons_zero, List.length_cons, List.length_nil, Nat.reduceAdd, Nat.reduceEqDiff, List.getD_cons_succ, List.getD_cons_zero, decide_true, decide_false, Bool.and_true, Bool.and_self, and_self, true_and, List.all_cons, List.all_nil, Bool.not_true, Bool.not_false, if_true, Bool.true_eq_false, Bool.false_eq_true, if_false, i0, i1, i2, i3, c2, sz4]
    rfl
  rw [List.map_id] at c
  have d1 : decide (12 < ((st.map Stp.d).length : Int)) = false := decide_eq_false (by rw [List.length_map]; omega)
  show outF false (g_need_steps [.va X, .va (.int w), .un, .un, .un]) = _
  simp only [g_need_steps, ev_name, ev_c, ev_op2, ev_op1, ev_toR1, ev_toRL1, ev_nil, ev_cons, ev_opn, ev_opnN, ev_tup, ev_lst, ev_lstN, ev_new, ev_tst, ev_notT, ev_andT, ev_orT, ev_notF, ev_andF, ev_orF, ev_ifF, ev_yes, ev_iter, ev_rng1, ev_rng2, ev_rngW, ev_noP, ev_sl, ev_part, ev_next, ev_noG, ev_seq, ev_drop, ev_ret, ev_retN, ev_if, ev_asg, ev_setA, ev_nilA, ev_consA, ev_seqT, ev_seqL, ev_setN, ev_ok, ev_ioV, ev_ioU, ev_ioW, ev_owV, ev_owU, ev_own, ev_put, ev_ixOwn, ev_lenOwn, ev_setIx, ev_okC, ev_wipe1, ev_wipe0, ev_rest1, ev_rest0, ev_call, ev_callN, ev_ofr, ev_ofn, ev_ofnN, ev_mut, ev_mdl, ev_mdi, ev_io, ev_addI, ev_subI, ev_negI, ev_cmpI, ev_eqI, ev_neI, ev_eqS, ev_neS, ev_intI, ev_intB, ev_absI, ev_lenL, ev_lenT, ev_ixL, ev_ixT, ev_at0, ev_at1, ev_at2, ev_i30, ev_i31, ev_i32, ev_pk1, ev_pk2, ev_pk3, ev_pk4, ev_pkw1, ev_pkw2, ev_pkv2, ev_isI, ev_isN, ev_isB, ev_inI, ev_inN, ev_inB, ev_listT, ev_listL, ev_tupT, ev_tupL, ev_fld, ev_insAt, ev_fldOwn, ev_fldG, ev_meth, ev_make, ev_callL, ev_noLI, ev_nilL, ev_nameL, ev_lendL, ev_conL, ev_augIx, ev_putAt, ev_iadd, ev_isub, ev_revT, ev_enum, ev_zip, ev_seqDL, ev_seqDT, ev_nilM, ev_vaM, ev_owM, ev_parM, ev_app, ev_par, ev_par3, R.bind_ok, R.out_ok, Option.bind_some, List.getElem?_cons_succ, List.getElem?_cons_zero, List.set_cons_succ, List.set_cons_zero, List.length_cons, List.length_nil, Nat.reduceAdd, Nat.reduceEqDiff, List.getD_cons_succ, List.getD_cons_zero, decide_true, decide_false, Bool.and_true, Bool.and_self, and_self, true_and, List.all_cons, List.all_nil, Bool.not_true, Bool.not_false, if_true, Bool.true_eq_false, Bool.false_eq_true, if_false, ev_for, hX.isi, hX.len, hX.seq, sz2, d1, e, c]
  rfl
theorem mkLift {w : Int} {st : List Stp} {X : D} (h1 : 1 ≤ w) (h2 : w ≤ 6) (ok : ∀ s ∈ st, s.Ok w) (hl : st.length ≤ 12) (hX : SeqS X (st.map Stp.d)) : F_Lift___init__ [.ins "Lift" [], .int w, X] = .ret .non (.i "Lift" [("width", .int w), ("steps", stD st)]) := by
  have m1 : (("Lift" : Str) ∈ (["Lift"] : List Str)) = True := eq_true (by decide)
  have m2 : (("Lift" : Str) ∈ (["Lift"] : List Str)) = True := eq_true (by decide)
  have p1 : ∀ d : D, putD ("width" : Str) d [] = [(("width" : Str), d)] := fun _ => rfl
  have p2 : ∀ d e : D, putD ("steps" : Str) d [(("width" : Str), e)] = [(("width" : Str), e), (("steps" : Str), d)] := fun _ _ => rfl
  show outF true (g_Lift___init__ [.io (.i "Lift" []), .va (.int w), .va X]) = _
  simp only [g_Lift___init__, ev_name, ev_c, ev_op2, ev_op1, ev_toR1, ev_toRL1, ev_nil, ev_cons, ev_opn, ev_opnN, ev_tup, ev_lst, ev_lstN, ev_new, ev_tst, ev_notT, ev_andT, ev_orT, ev_notF, ev_andF, ev_orF, ev_ifF, ev_yes, ev_iter, ev_rng1, ev_rng2, ev_rngW, ev_noP, ev_sl, ev_part, ev_next, ev_noG, ev_seq, ev_drop, ev_ret, ev_retN, ev_if, ev_asg, ev_setA, ev_nilA, ev_consA, ev_seqT, ev_seqL, ev_setN, ev_ok, ev_ioV, ev_ioU, ev_ioW, ev_owV, ev_owU, ev_own, ev_put, ev_ixOwn, ev_lenOwn, ev_setIx, ev_comp, ev_compL0, ev_compL1, ev_okC, ev_wipe1, ev_wipe0, ev_rest1, ev_rest0, ev_call, ev_callN, ev_ofr, ev_ofn, ev_ofnN, ev_mut, ev_mdl, ev_mdi, ev_io, ev_addI, ev_subI, ev_negI, ev_cmpI, ev_eqI, ev_neI, ev_eqS, ev_neS, ev_intI, ev_intB, ev_absI, ev_lenL, ev_lenT, ev_ixL, ev_ixT, ev_at0, ev_at1, ev_at2, ev_i30, ev_i31, ev_i32, ev_pk1, ev_pk2, ev_pk3, ev_pk4, ev_pkw1, ev_pkw2, ev_pkv2, ev_isI, ev_isN, ev_isB, ev_inI, ev_inN, ev_inB, ev_listT, ev_listL, ev_tupT, ev_tupL, ev_fld, ev_insAt, ev_fldOwn, ev_fldG, ev_meth, ev_make, ev_callL, ev_noLI, ev_nilL, ev_nameL, ev_lendL, ev_conL, ev_augIx, ev_putAt, ev_iadd, ev_isub, ev_revT, ev_enum, ev_zip, ev_seqDL, ev_seqDT, ev_nilM, ev_vaM, ev_owM, ev_parM, ev_app, ev_par, ev_par3, R.bind_ok, R.out_ok, Option.bind_some, List.getElem?_cons_succ, List.getElem?_cons_zero, List.set_cons_succ, List.set_cons_zero, List.length_cons, List.length_nil, Nat.reduceAdd, Nat.reduceEqDiff, List.getD_cons_succ, List.getD_cons_zero, decide_true, decide_false, Bool.and_true, Bool.and_self, and_self, true_and, List.all_cons, List.all_nil, Bool.not_true, Bool.not_false, if_true, Bool.true_eq_false, Bool.false_eq_true, if_false, needWidth h1 h2, needSteps h1 h2 ok hl hX, m1, m2, p1, p2, show (0 : Nat) < 1000 by decide, show (0 + 1 : Nat) < 1000 by decide, show (1 : Nat) < 1000 by decide]
  rfl
theorem madeLift {w : Int} {st : List Stp} : madeR "Lift" (.ret .non (.i "Lift" [("width", .int w), ("steps", stD st)])) = some (.inl [("width", .int w), ("steps", stD st)]) := by
  unfold madeR
  dsimp only
  rw [if_pos rfl]
/-! ### there and back -/
theorem getD_set_ne {bs : List Int} {i j : Nat} {v : Int} (h : i ≠ j) : (bs.set i v).getD j 0 = bs.getD j 0 := by
  rw [List.getD_eq_getElem?_getD, List.getD_eq_getElem?_getD, List.getElem?_set_ne h]
theorem share_set {w : Int} {s : Stp} {bs : List Int} {v : Int} (ok : s.Ok w) : shareI s (bs.set s.t.toNat v) = shareI s bs := by
  unfold shareI shareS
  congr 2
  congr 1
  refine List.map_congr_left fun p hp => ?_
  obtain ⟨h1, h2, h3, _⟩ := ok.p.pr p hp
  have t0 := ok.t0
  rw [getD_set_ne (by omega)]
theorem un_fo {w : Int} {s : Stp} {bs : List Int} (ok : s.Ok w) (hl : (bs.length : Int) = w) : un1 s (fo s bs) = bs := by
  unfold un1 fo
  have t0 := ok.t0
  have t1 := ok.t1
  have hlt : s.t.toNat < bs.length := by omega
  rw [share_set ok, List.set_set, List.getD_eq_getElem?_getD, List.getElem?_set_self hlt, List.getD_eq_getElem?_getD, List.getElem?_eq_getElem hlt]
  show bs.set _ (bs[s.t.toNat] + shareI s bs - shareI s bs) = bs
  rw [Int.add_sub_cancel, List.set_getElem_self]
theorem fo_un {w : Int} {s : Stp} {bs : List Int} (ok : s.Ok w) (hl : (bs.length : Int) = w) : fo s (un1 s bs) = bs := by
  unfold un1 fo
  have t0 := ok.t0
  have t1 := ok.t1
  have hlt : s.t.toNat < bs.length := by omega
  rw [share_set ok, List.set_set, List.getD_eq_getElem?_getD, List.getElem?_set_self hlt, List.getD_eq_getElem?_getD, List.getElem?_eq_getElem hlt]
  show bs.set _ (bs[s.t.toNat] - shareI s bs + shareI s bs) = bs
  rw [Int.sub_add_cancel, List.set_getElem_self]
theorem backR_app : ∀ {st tt : List Stp} {bs : List Int}, backR (st ++ tt) bs = backR tt (backR st bs)
  | [], _, _ => rfl
  | s :: st, tt, bs => backR_app (st := st)
theorem forth_app : ∀ {st tt : List Stp} {bs : List Int}, forthI (st ++ tt) bs = forthI tt (forthI st bs)
  | [], _, _ => rfl
  | s :: st, tt, bs => forth_app (st := st)
theorem back_forth {w : Int} : ∀ {st : List Stp} {bs : List Int}, (∀ s ∈ st, s.Ok w) → (bs.length : Int) = w → backI st (forthI st bs) = bs
  | [], _, _, _ => rfl
  | s :: st, bs, ok, hl => by
    unfold backI
    rw [List.reverse_cons, backR_app, forthI]
    have := back_forth (st := st) (bs := fo s bs) (fun t ht => ok t (List.mem_cons_of_mem _ ht)) (by rw [fo_len]; exact hl)
    unfold backI at this
    rw [this]
    exact un_fo (ok s List.mem_cons_self) hl
theorem forth_back {w : Int} : ∀ {st : List Stp} {bs : List Int}, (∀ s ∈ st, s.Ok w) → (bs.length : Int) = w → forthI st (backI st bs) = bs
  | [], _, _, _ => rfl
  | s :: st, bs, ok, hl => by
    unfold backI
    rw [List.reverse_cons, backR_app, forthI]
    show forthI st (fo s (un1 s (backR st.reverse bs))) = bs
    rw [fo_un (ok s List.mem_cons_self) (by rw [backR_len]; exact hl)]
    exact forth_back (st := st) (fun t ht => ok t (List.mem_cons_of_mem _ ht)) hl
/-! ### how great numbers become -/
def Bd (k : Nat) (bs : List Int) : Prop := ∀ x ∈ bs, -(2 ^ k) ≤ x ∧ x ≤ 2 ^ k
theorem pw {k m : Nat} (h : k ≤ m) : (2 : Int) ^ k ≤ 2 ^ m := by
  obtain ⟨j, rfl⟩ : ∃ j, m = k + j := ⟨m - k, by omega⟩
  rw [Int.pow_add]
  have p : (0 : Int) < 2 ^ k := Int.pow_pos (by decide)
  have q : (0 : Int) < 2 ^ j := Int.pow_pos (by decide)
  have := Int.mul_le_mul_of_nonneg_left (show (1 : Int) ≤ 2 ^ j by omega) (show (0 : Int) ≤ 2 ^ k by omega)
  omega
theorem Bd.getD {k : Nat} {bs : List Int} (h : Bd k bs) (i : Nat) : -(2 ^ k) ≤ bs.getD i 0 ∧ bs.getD i 0 ≤ 2 ^ k := by
  have p : (0 : Int) < 2 ^ k := Int.pow_pos (by decide)
  rw [List.getD_eq_getElem?_getD]
  cases e : bs[i]? with
  | none => exact ⟨by show _ ≤ (0 : Int); omega, by show (0 : Int) ≤ _; omega⟩
  | some x => exact h x (List.mem_of_getElem? e)
theorem mul9 {x v M : Int} (h1 : -9 ≤ x) (h2 : x ≤ 9) (h3 : -M ≤ v) (h4 : v ≤ M) : -(9 * M) ≤ x * v ∧ x * v ≤ 9 * M := by
  have : x = -9 ∨ x = -8 ∨ x = -7 ∨ x = -6 ∨ x = -5 ∨ x = -4 ∨ x = -3 ∨ x = -2 ∨ x = -1 ∨ x = 0 ∨ x = 1 ∨ x = 2 ∨ x = 3 ∨ x = 4 ∨ x = 5 ∨ x = 6 ∨ x = 7 ∨ x = 8 ∨ x = 9 := by omega
  rcases this with rfl | rfl | rfl | rfl | rfl | rfl | rfl | rfl | rfl | rfl | rfl | rfl | rfl | rfl | rfl | rfl | rfl | rfl | rfl <;> omega
theorem sum9 {bs : List Int} {M : Int} (hb : ∀ i, -M ≤ bs.getD i 0 ∧ bs.getD i 0 ≤ M) (hM : 0 ≤ M) : ∀ ps : List (Int × Int), (∀ p ∈ ps, -9 ≤ p.2 ∧ p.2 ≤ 9) → -(9 * M * ps.length) ≤ (ps.map fun p => p.2 * bs.getD p.1.toNat 0).sum ∧ (ps.map fun p => p.2 * bs.getD p.1.toNat 0).sum ≤ 9 * M * ps.length
  | [], _ => by simp
  | p :: ps, h => by
    obtain ⟨h1, h2⟩ := h p List.mem_cons_self
    have g := mul9 h1 h2 (hb p.1.toNat).1 (hb p.1.toNat).2
    have ih := sum9 hb hM ps fun q hq => h q (List.mem_cons_of_mem _ hq)
    rw [List.map_cons, List.sum_cons, List.length_cons]
    have e : 9 * M * ((ps.length + 1 : Nat) : Int) = 9 * M * ps.length + 9 * M := by
      rw [Int.natCast_add, Int.mul_add]
      omega
    rw [e]
    omega
theorem share_bd {w : Int} {s : Stp} {bs : List Int} {k : Nat} (ok : s.Ok w) (w6 : w ≤ 6) (h : Bd k bs) : -(45 * 2 ^ k + 99) ≤ shareI s bs ∧ shareI s bs ≤ 45 * 2 ^ k + 99 := by
  have p : (0 : Int) < 2 ^ k := Int.pow_pos (by decide)
  have g := sum9 (M := 2 ^ k) h.getD (by omega) s.ps fun p hp => ⟨(ok.p.pr p hp).2.2.2.1, (ok.p.pr p hp).2.2.2.2.1⟩
  have hlen := ok.len
  have a0 := ok.a0
  have a1 := ok.a1
  have o0 := ok.o0
  have g2 : 9 * (2 : Int) ^ k * s.ps.length ≤ 9 * 2 ^ k * 5 := Int.mul_le_mul_of_nonneg_left (by omega) (by omega)
  unfold shareI shareS
  have hs1 : -(45 * 2 ^ k + 99) ≤ (s.ps.map fun p => p.2 * bs.getD p.1.toNat 0).sum + s.a := by omega
  have hs2 : (s.ps.map fun p => p.2 * bs.getD p.1.toNat 0).sum + s.a ≤ 45 * 2 ^ k + 99 := by omega
  generalize (s.ps.map fun p => p.2 * bs.getD p.1.toNat 0).sum + s.a = x at hs1 hs2
  refine ⟨?_, ?_⟩
  · refine Int.le_trans ?_ (Int.ediv_le_ediv (by omega) hs1)
    refine (Int.le_ediv_iff_mul_le (by omega)).mpr ?_
    have : 1 * (45 * 2 ^ k + 99) ≤ s.o * (45 * (2 : Int) ^ k + 99) := Int.mul_le_mul_of_nonneg_right o0 (by omega)
    rw [Int.neg_mul, Int.mul_comm]
    omega
  · refine Int.le_trans (Int.ediv_le_ediv (by omega) hs2) ?_
    exact Int.ediv_le_self _ (by omega)
theorem set_bd {k m : Nat} {bs : List Int} {i : Nat} {v : Int} (h : Bd k bs) (hk : k ≤ m) (hv : -(2 ^ m) ≤ v ∧ v ≤ 2 ^ m) : Bd m (bs.set i v) := fun x hx => by
  have p : (2 : Int) ^ k ≤ 2 ^ m := pw hk
  rcases List.mem_or_eq_of_mem_set hx with hx | rfl
  · have := h x hx
    omega
  · exact hv
theorem fo_bd {w : Int} {s : Stp} {bs : List Int} {k : Nat} (ok : s.Ok w) (w6 : w ≤ 6) (h : Bd k bs) (hk : 2 ≤ k) : Bd (k + 7) (fo s bs) ∧ Bd (k + 7) (un1 s bs) := by
  have g := share_bd ok w6 h
  have g2 := h.getD s.t.toNat
  have e : (2 : Int) ^ (k + 7) = 128 * 2 ^ k := by rw [Int.pow_add]; omega
  have p : (2 : Int) ^ 2 ≤ 2 ^ k := pw hk
  exact ⟨set_bd h (by omega) (by rw [e]; omega), set_bd h (by omega) (by rw [e]; omega)⟩
theorem forth_bd {w : Int} (w6 : w ≤ 6) : ∀ {st : List Stp} {bs : List Int} {k : Nat}, (∀ s ∈ st, s.Ok w) → Bd k bs → 2 ≤ k → Bd (k + 7 * st.length) (forthI st bs)
  | [], _, _, _, h, _ => h
  | s :: st, bs, k, ok, h, hk => by
    have := forth_bd w6 (st := st) (fun t ht => ok t (List.mem_cons_of_mem _ ht)) (fo_bd (ok s List.mem_cons_self) w6 h hk).1 (by omega)
    rw [List.length_cons, show k + 7 * (st.length + 1) = k + 7 + 7 * st.length by omega]
    exact this
theorem backR_bd {w : Int} (w6 : w ≤ 6) : ∀ {st : List Stp} {bs : List Int} {k : Nat}, (∀ s ∈ st, s.Ok w) → Bd k bs → 2 ≤ k → Bd (k + 7 * st.length) (backR st bs)
  | [], _, _, _, h, _ => h
  | s :: st, bs, k, ok, h, hk => by
    have := backR_bd w6 (st := st) (fun t ht => ok t (List.mem_cons_of_mem _ ht)) (fo_bd (ok s List.mem_cons_self) w6 h hk).2 (by omega)
    rw [List.length_cons, show k + 7 * (st.length + 1) = k + 7 + 7 * st.length by omega]
    exact this
theorem back_bd {w : Int} (w6 : w ≤ 6) {st : List Stp} {bs : List Int} {k : Nat} (ok : ∀ s ∈ st, s.Ok w) (h : Bd k bs) (hk : 2 ≤ k) : Bd (k + 7 * st.length) (backI st bs) := by
  have := backR_bd w6 (st := st.reverse) (fun s hs => ok s (List.mem_reverse.mp hs)) h hk
  rwa [List.length_reverse] at this
theorem Bd.mono {k m : Nat} {bs : List Int} (h : Bd k bs) (hk : k ≤ m) : Bd m bs := fun x hx => by
  have p : (2 : Int) ^ k ≤ 2 ^ m := pw hk
  have := h x hx
  omega
theorem div_bd {x M s : Int} (h : -M ≤ x ∧ x ≤ M) (hM : 0 ≤ M) (hs : 1 ≤ s) : -M ≤ x / s ∧ x / s ≤ M := by
  have p : 1 * M ≤ s * M := Int.mul_le_mul_of_nonneg_right hs hM
  refine ⟨?_, ?_⟩
  · refine Int.le_trans ?_ (Int.ediv_le_ediv (by omega) h.1)
    refine (Int.le_ediv_iff_mul_le (by omega)).mpr ?_
    rw [Int.neg_mul, Int.mul_comm]
    omega
  · refine Int.le_trans (Int.ediv_le_ediv (by omega) h.2) ?_
    exact Int.ediv_le_self _ hM
end Fx

set_option Elab.async false
set_option linter.all false
set_option maxRecDepth 100000
namespace Fx
open PySem L2 PyProof.Rows
/-! ### rows of fractions, in plain mathematics -/
abbrev Mat := Nat → Nat → Rat
/-- what a step does to rows -/
def cf (s : Stp) (p : Int × Int) : Rat := (p.2 : Rat) / (s.o : Rat)
def addP (s : Stp) (ps : List (Int × Int)) (A : Mat) (j : Nat) : Rat := ps.foldl (fun x p => x + cf s p * A p.1.toNat j) (A s.t.toNat j)
def rop (s : Stp) (A : Mat) : Mat := fun i j => if i = s.t.toNat then addP s s.ps A j else A i j
def rops (st : List Stp) (A : Mat) : Mat := st.foldl (fun A s => rop s A) A
def sumN (n : Nat) (f : Nat → Rat) : Rat := match n with
  | 0 => 0
  | n + 1 => sumN n f + f n
def mulM (w : Nat) (A B : Mat) : Mat := fun i j => sumN w fun k => A i k * B k j
def idM : Mat := fun i j => if j = i then 1 else 0
def turn1 (s : Stp) : Stp := ⟨s.t, s.ps.map fun p => (p.1, -p.2), s.o - 1 - s.a, s.o⟩
theorem sumN_add (n : Nat) (f g : Nat → Rat) : sumN n (fun k => f k + g k) = sumN n f + sumN n g := by
  induction n with
  | zero => show (0 : Rat) = 0 + 0; grind
  | succ n ih => show sumN n (fun k => f k + g k) + (f n + g n) = sumN n f + f n + (sumN n g + g n); rw [ih]; grind
theorem sumN_mul (n : Nat) (c : Rat) (f : Nat → Rat) : sumN n (fun k => c * f k) = c * sumN n f := by
  induction n with
  | zero => show (0 : Rat) = c * 0; grind
  | succ n ih => show sumN n (fun k => c * f k) + c * f n = c * (sumN n f + f n); rw [ih]; grind
theorem sumN_congr {n : Nat} {f g : Nat → Rat} (h : ∀ k, k < n → f k = g k) : sumN n f = sumN n g := by
  induction n with
  | zero => rfl
  | succ n ih =>
    show sumN n f + f n = sumN n g + g n
    rw [ih fun k hk => h k (by omega), h n (by omega)]
theorem mul_add1 (w : Nat) (s : Stp) (A B : Mat) (j : Nat) : ∀ (ps : List (Int × Int)) (f : Nat → Rat), sumN w (fun k => (ps.foldl (fun x p => x + cf s p * A p.1.toNat k) (f k)) * B k j) = ps.foldl (fun x p => x + cf s p * mulM w A B p.1.toNat j) (sumN w fun k => f k * B k j)
  | [], f => rfl
  | p :: ps, f => by
    rw [List.foldl_cons]
    have := mul_add1 w s A B j ps (fun k => f k + cf s p * A p.1.toNat k)
    simp only [List.foldl_cons]
    rw [this]
    congr 1
    rw [show (fun k => (f k + cf s p * A p.1.toNat k) * B k j) = fun k => f k * B k j + cf s p * (A p.1.toNat k * B k j) from funext fun k => by grind, sumN_add, sumN_mul]
    rfl
theorem mul_rop (w : Nat) (s : Stp) (A B : Mat) : mulM w (rop s A) B = rop s (mulM w A B) := by
  funext i j
  show sumN w (fun k => rop s A i k * B k j) = rop s (mulM w A B) i j
  by_cases h : i = s.t.toNat
  · have e1 : (fun k => rop s A i k * B k j) = fun k => addP s s.ps A k * B k j := funext fun k => by unfold rop; rw [if_pos h]
    rw [e1]
    unfold rop
    rw [if_pos h]
    exact mul_add1 w s A B j s.ps fun k => A s.t.toNat k
  · have e1 : (fun k => rop s A i k * B k j) = fun k => A i k * B k j := funext fun k => by unfold rop; rw [if_neg h]
    rw [e1]
    unfold rop
    rw [if_neg h]
    rfl
theorem mul_rops (w : Nat) (B : Mat) : ∀ (st : List Stp) (A : Mat), mulM w (rops st A) B = rops st (mulM w A B)
  | [], _ => rfl
  | s :: st, A => by
    show mulM w (rops st (rop s A)) B = rops st (rop s (mulM w A B))
    rw [mul_rops w B st, mul_rop]
theorem sumN_id (w : Nat) (i : Nat) (h : i < w) (f : Nat → Rat) : sumN w (fun k => idM i k * f k) = f i := by
  have key : ∀ n, sumN n (fun k => idM i k * f k) = if i < n then f i else 0 := fun n => by
    induction n with
    | zero => rfl
    | succ n ih =>
      show sumN n _ + idM i n * f n = _
      rw [ih]
      unfold idM
      by_cases h1 : n = i
      · subst h1
        rw [if_neg (by omega), if_pos rfl, if_pos (by omega)]
        grind
      · rw [if_neg h1]
        by_cases h2 : i < n
        · rw [if_pos h2, if_pos (by omega)]; grind
        · rw [if_neg h2, if_neg (by omega)]; grind
  rw [key, if_pos h]
theorem foldl_off {s : Stp} {A B : Mat} {j : Nat} : ∀ (ps : List (Int × Int)) (x : Rat), (∀ p ∈ ps, A p.1.toNat j = B p.1.toNat j) → ps.foldl (fun x p => x + cf s p * A p.1.toNat j) x = ps.foldl (fun x p => x + cf s p * B p.1.toNat j) x
  | [], _, _ => rfl
  | p :: ps, x, h => by
    rw [List.foldl_cons, List.foldl_cons, h p List.mem_cons_self]
    exact foldl_off ps _ fun q hq => h q (List.mem_cons_of_mem _ hq)
theorem foldl_shift (g : Int × Int → Rat) : ∀ (ps : List (Int × Int)) (x : Rat), ps.foldl (fun x p => x + g p) x = x + (ps.map g).sum
  | [], x => by simp only [List.foldl_nil, List.map_nil, List.sum_nil]; grind
  | p :: ps, x => by
    rw [List.foldl_cons, foldl_shift g ps, List.map_cons, List.sum_cons]
    grind
theorem turn_cf (s : Stp) (p : Int × Int) : cf (turn1 s) (p.1, -p.2) = - cf s p := by
  unfold cf turn1
  show ((-p.2 : Int) : Rat) / (s.o : Rat) = _
  rw [Rat.intCast_neg]
  grind
theorem neg_sum (g : Int × Int → Rat) : ∀ ps : List (Int × Int), (ps.map fun p => - g p).sum = - (ps.map g).sum
  | [] => by simp only [List.map_nil, List.sum_nil]; grind
  | p :: ps => by
    rw [List.map_cons, List.sum_cons, List.map_cons, List.sum_cons, neg_sum g ps]
    grind
/-- a step that undoes -/
theorem rop_turn {w : Int} {s : Stp} (h : PsOk w s.t w s.ps) (t0 : 0 ≤ s.t) (A : Mat) : rop (turn1 s) (rop s A) = A := by
  funext i j
  have ht : (turn1 s).t = s.t := rfl
  by_cases hi : i = s.t.toNat
  · show (if i = (turn1 s).t.toNat then addP (turn1 s) (turn1 s).ps (rop s A) j else rop s A i j) = _
    rw [ht, if_pos hi]
    unfold addP
    rw [foldl_shift (fun p => cf (turn1 s) p * rop s A p.1.toNat j), ht]
    have e1 : rop s A s.t.toNat j = A s.t.toNat j + (s.ps.map fun p => cf s p * A p.1.toNat j).sum := by
      unfold rop
      rw [if_pos rfl]
      exact foldl_shift (fun p => cf s p * A p.1.toNat j) s.ps _
    have e2 : ((turn1 s).ps.map fun p => cf (turn1 s) p * rop s A p.1.toNat j) = s.ps.map fun p => - (cf s p * A p.1.toNat j) := by
      show ((s.ps.map fun p => (p.1, -p.2)).map _) = _
      rw [List.map_map]
      refine List.map_congr_left fun p hp => ?_
      show cf (turn1 s) (p.1, -p.2) * rop s A p.1.toNat j = _
      have := h.pr p hp
      have e : rop s A p.1.toNat j = A p.1.toNat j := by
        unfold rop
        rw [if_neg (by omega)]
      rw [e, turn_cf]
      grind
    rw [e1, e2, neg_sum, hi]
    grind
  · show (if i = (turn1 s).t.toNat then _ else rop s A i j) = _
    rw [ht, if_neg hi]
    unfold rop
    rw [if_neg hi]
theorem rops_app : ∀ (st tt : List Stp) (A : Mat), rops (st ++ tt) A = rops tt (rops st A)
  | [], _, _ => rfl
  | s :: st, tt, A => rops_app st tt (rop s A)
theorem rops_back {w : Int} : ∀ (st : List Stp), (∀ s ∈ st, PsOk w s.t w s.ps ∧ 0 ≤ s.t) → ∀ A : Mat, rops (st.reverse.map turn1) (rops st A) = A
  | [], _, A => rfl
  | s :: st, h, A => by
    rw [List.reverse_cons, List.map_append, rops_app]
    show rop (turn1 s) (rops (st.reverse.map turn1) (rops st (rop s A))) = A
    rw [rops_back st (fun t ht => h t (List.mem_cons_of_mem _ ht)), rop_turn (h s List.mem_cons_self).1 (h s List.mem_cons_self).2]
/-! ### sizes -/
/-- a fraction over W, its top below 2 ^ m -/
def Ov (W : Nat) (m : Nat) (q : Rat) : Prop := ∃ a : Int, q = (a : Rat) / (W : Rat) ∧ -(2 ^ m) ≤ a ∧ a ≤ 2 ^ m
theorem Ov.num {W m : Nat} {q : Rat} (h : Ov W m q) (hW : 0 < W) : -(2 ^ m) ≤ q.num ∧ q.num ≤ 2 ^ m ∧ q.den ≤ W := by
  obtain ⟨a, e, h1, h2⟩ := h
  have hW' : W ≠ 0 := by omega
  rw [← Rat.mkRat_eq_div] at e
  have eq : q = Rat.normalize a W hW' := by rw [e]; unfold mkRat; rw [dif_neg hW']
  rw [Rat.normalize_eq] at eq
  have hg : 0 < a.natAbs.gcd W := Nat.gcd_pos_of_pos_right _ hW
  have en : q.num = a / ((a.natAbs.gcd W : Nat) : Int) := by rw [eq]
  have ed : q.den = W / a.natAbs.gcd W := by rw [eq]
  have d := div_bd (x := a) (M := 2 ^ m) (s := ((a.natAbs.gcd W : Nat) : Int)) ⟨h1, h2⟩ (by have : (0 : Int) < 2 ^ m := Int.pow_pos (by decide); omega) (by omega)
  rw [en, ed]
  exact ⟨d.1, d.2, Nat.div_le_self _ _⟩
theorem Ov.mono {W m n : Nat} {q : Rat} (h : Ov W m q) (hm : m ≤ n) : Ov W n q := by
  obtain ⟨a, e, h1, h2⟩ := h
  have := pw hm
  exact ⟨a, e, by omega, by omega⟩
theorem Ov.scale {W m k : Nat} {q : Rat} (h : Ov W m q) (hW : 0 < W) {V : Nat} (hV : 0 < V) (hk : (V : Int) ≤ 2 ^ k) : Ov (W * V) (m + k) q := by
  obtain ⟨a, e, h1, h2⟩ := h
  have hW' : (W : Rat) ≠ 0 := by
    intro z
    have : W = 0 := by exact_mod_cast z
    omega
  have hV' : (V : Rat) ≠ 0 := by
    intro z
    have : V = 0 := by exact_mod_cast z
    omega
  refine ⟨a * V, ?_, ?_, ?_⟩
  · rw [e, Rat.intCast_mul, Rat.natCast_mul, Rat.intCast_natCast]
    grind
  · rw [Int.pow_add]
    have p : (0 : Int) < 2 ^ m := Int.pow_pos (by decide)
    have := Int.mul_le_mul_of_nonneg_right h1 (show (0 : Int) ≤ V by omega)
    have := Int.mul_le_mul_of_nonneg_left hk (show (0 : Int) ≤ 2 ^ m by omega)
    rw [Int.neg_mul] at *
    omega
  · rw [Int.pow_add]
    have p : (0 : Int) < 2 ^ m := Int.pow_pos (by decide)
    have := Int.mul_le_mul_of_nonneg_right h2 (show (0 : Int) ≤ V by omega)
    have := Int.mul_le_mul_of_nonneg_left hk (show (0 : Int) ≤ 2 ^ m by omega)
    omega
theorem Ov.add {W m : Nat} {p q : Rat} (h : Ov W m p) (h' : Ov W m q) : Ov W (m + 1) (p + q) := by
  obtain ⟨a, e, h1, h2⟩ := h
  obtain ⟨b, f, k1, k2⟩ := h'
  have e2 : (2 : Int) ^ (m + 1) = 2 * 2 ^ m := by rw [Int.pow_add]; omega
  refine ⟨a + b, ?_, by omega, by omega⟩
  rw [e, f, Rat.intCast_add]
  grind
theorem Ov.mul {W V m k : Nat} {p q : Rat} (h : Ov W m p) (h' : Ov V k q) (hW : 0 < W) (hV : 0 < V) : Ov (W * V) (m + k) (p * q) := by
  obtain ⟨a, e, h1, h2⟩ := h
  obtain ⟨b, f, k1, k2⟩ := h'
  have hW' : (W : Rat) ≠ 0 := by
    intro z
    have : W = 0 := by exact_mod_cast z
    omega
  have hV' : (V : Rat) ≠ 0 := by
    intro z
    have : V = 0 := by exact_mod_cast z
    omega
  have hab : (a * b).natAbs ≤ 2 ^ (m + k) := by
    rw [Int.natAbs_mul, Nat.pow_add]
    have a1 : a.natAbs ≤ 2 ^ m := by have : ((2 ^ m : Nat) : Int) = 2 ^ m := by rw [Int.natCast_pow]; rfl
                                     omega
    have b1 : b.natAbs ≤ 2 ^ k := by have : ((2 ^ k : Nat) : Int) = 2 ^ k := by rw [Int.natCast_pow]; rfl
                                     omega
    exact Nat.mul_le_mul a1 b1
  have hp : ((2 ^ (m + k) : Nat) : Int) = 2 ^ (m + k) := by rw [Int.natCast_pow]; rfl
  refine ⟨a * b, ?_, by omega, by omega⟩
  rw [e, f, Rat.intCast_mul, Rat.natCast_mul]
  grind
end Fx

set_option Elab.async false
set_option linter.all false
set_option maxRecDepth 100000
namespace Fx
open PySem L2 PyProof.Rows
set_option maxHeartbeats 1000000
/-! ### great numbers -/
def Sz (k : Nat) (i : Int) : Prop := -(2 ^ k) ≤ i ∧ i ≤ 2 ^ k
theorem pow_cast (k : Nat) : ((2 ^ k : Nat) : Int) = 2 ^ k := by rw [Int.natCast_pow]; rfl
theorem Sz.nat {k : Nat} {i : Int} (h : Sz k i) : i.natAbs < 2 ^ (k + 1) := by
  have e := pow_cast k
  have p : 0 < 2 ^ k := Nat.pow_pos (by decide)
  have e2 : 2 ^ (k + 1) = 2 * 2 ^ k := by rw [Nat.pow_succ, Nat.mul_comm]
  obtain ⟨h1, h2⟩ := h
  omega
theorem Sz.mul {k m : Nat} {i j : Int} (h : Sz k i) (h' : Sz m j) : Sz (k + m) (i * j) := by
  have e := pow_cast k
  have e2 := pow_cast m
  have e3 := pow_cast (k + m)
  have a1 : i.natAbs ≤ 2 ^ k := by obtain ⟨h1, h2⟩ := h; omega
  have b1 : j.natAbs ≤ 2 ^ m := by obtain ⟨h1, h2⟩ := h'; omega
  have hab : (i * j).natAbs ≤ 2 ^ (k + m) := by
    rw [Int.natAbs_mul, Nat.pow_add]
    exact Nat.mul_le_mul a1 b1
  exact ⟨by omega, by omega⟩
theorem Sz.add {k : Nat} {i j : Int} (h : Sz k i) (h' : Sz k j) : Sz (k + 1) (i + j) := by
  have e : (2 : Int) ^ (k + 1) = 2 * 2 ^ k := by rw [Int.pow_add]; omega
  obtain ⟨h1, h2⟩ := h
  obtain ⟨h3, h4⟩ := h'
  exact ⟨by omega, by omega⟩
theorem Sz.mono {k m : Nat} {i : Int} (h : Sz k i) (hk : k ≤ m) : Sz m i := by
  have := pw hk
  obtain ⟨h1, h2⟩ := h
  exact ⟨by omega, by omega⟩
theorem mulW {i j : Int} {a b : Nat} (ha : Sz a i) (hb : Sz b j) (h : a + b ≤ 100000) : mulD (.int i) (.int j) = some (.int (i * j)) :=
  if_pos (.inr (wide_mul ha.nat hb.nat (by omega) (by omega) (by omega)))
theorem fdivW {i g : Int} {k : Nat} (h0 : 0 < g) (hg : Sz k g) (hk : k ≤ 8000) : fdivD (.int i) (.int g) = some (.int (i / g)) := by
  refine ev_fdivI h0 ?_
  have := hg.nat
  exact (Nat.log2_lt (by omega)).mpr (Nat.lt_of_lt_of_le this (Nat.pow_le_pow_right (by decide) (by omega)))
/-! ### fractions -/
def fr (q : Rat) : D := .tup [.int q.num, .int ((q.den : Nat) : Int)]
theorem mk_norm (t : Int) {b : Nat} (hb : 0 < b) : fr (mkRat t b) = .tup [.int (t / ((t.natAbs.gcd b : Nat) : Int)), .int ((b : Int) / ((t.natAbs.gcd b : Nat) : Int))] := by
  have hb' : b ≠ 0 := by omega
  have e : mkRat t b = Rat.normalize t b hb' := by unfold mkRat; rw [dif_neg hb']
  unfold fr
  rw [e, Rat.normalize_eq]
  rfl
theorem gcd_sz {t : Int} {b k : Nat} (hb : 0 < b) (hs : Sz k (b : Int)) : 0 < ((t.natAbs.gcd b : Nat) : Int) ∧ Sz k ((t.natAbs.gcd b : Nat) : Int) := by
  have hg : 0 < t.natAbs.gcd b := Nat.gcd_pos_of_pos_right _ hb
  have hl : t.natAbs.gcd b ≤ b := Nat.gcd_le_right _ hb
  have p : (0 : Int) < 2 ^ k := Int.pow_pos (by decide)
  obtain ⟨h1, h2⟩ := hs
  exact ⟨by omega, by omega, by omega⟩
theorem in_terms {t : Int} {b k : Nat} (hb : 0 < b) (hs : Sz k (b : Int)) (hk : k ≤ 8000) : F_in_terms [.int t, .int (b : Int)] = .ret (fr (mkRat t b)) (.l []) := by
  obtain ⟨g0, gs⟩ := gcd_sz (t := t) hb hs
  have e1 : gcdD [.int t, .int (b : Int)] = some (.int ((t.natAbs.gcd b : Nat) : Int)) := rfl
  rw [mk_norm t hb]
  show outF false (g_in_terms [.va (.int t), .va (.int (b : Int)), .un]) = _
  simp only [g_in_terms, ev_name, ev_c, ev_op2, ev_op1, ev_toR1, ev_toRL1, ev_nil, ev_cons, ev_opn, ev_opnN, ev_tup, ev_lst, ev_lstN, ev_new, ev_tst, ev_notT, ev_andT, ev_orT, ev_notF, ev_andF, ev_orF, ev_ifF, ev_yes, ev_iter, ev_rng1, ev_rng2, ev_rngW, ev_noP, ev_sl, ev_part, ev_next, ev_noG, ev_seq, ev_drop, ev_ret, ev_retN, ev_if, ev_asg, ev_setA, ev_nilA, ev_consA, ev_seqT, ev_seqL, ev_setN, ev_ok, ev_ioV, ev_ioU, ev_ioW, ev_owV, ev_owU, ev_own, ev_put, ev_ixOwn, ev_lenOwn, ev_setIx, ev_comp, ev_compL0, ev_compL1, ev_okC, ev_wipe1, ev_wipe0, ev_rest1, ev_rest0, ev_call, ev_callN, ev_ofr, ev_ofn, ev_ofnN, ev_mut, ev_mdl, ev_mdi, ev_io, ev_addI, ev_subI, ev_negI, ev_cmpI, ev_eqI, ev_neI, ev_eqS, ev_neS, ev_intI, ev_intB, ev_absI, ev_lenL, ev_lenT, ev_ixL, ev_ixT, ev_at0, ev_at1, ev_at2, ev_i30, ev_i31, ev_i32, ev_pk1, ev_pk2, ev_pk3, ev_pk4, ev_pkw1, ev_pkw2, ev_pkv2, ev_isI, ev_isN, ev_isB, ev_inI, ev_inN, ev_inB, ev_listT, ev_listL, ev_tupT, ev_tupL, ev_fld, ev_insAt, ev_fldOwn, ev_fldG, ev_meth, ev_make, ev_callL, ev_noLI, ev_nilL, ev_nameL, ev_lendL, ev_conL, ev_augIx, ev_putAt, ev_iadd, ev_isub, ev_revT, ev_enum, ev_zip, ev_seqDL, ev_seqDT, ev_nilM, ev_vaM, ev_owM, ev_parM, ev_app, ev_par, ev_par3, R.bind_ok, R.out_ok, Option.bind_some, List.getElem?_cons_succ, List.getElem?_cons_zero, List.set_cons_succ, List.set_cons_zero, List.length_cons, List.length_nil, Nat.reduceAdd, Nat.reduceEqDiff, List.getD_cons_succ, List.getD_cons_zero, decide_true, decide_false, Bool.and_true, Bool.and_self, and_self, true_and, List.all_cons, List.all_nil, Bool.not_true, Bool.not_false, if_true, Bool.true_eq_false, Bool.false_eq_true, if_false, e1, fdivW g0 gs hk, sz2]
  rfl
theorem while0 {a : Nat} {f : Nat} : whileL (tstF (op2F neD (nameF 1) (cF (.int 0)))) g__law_gcd_b1 (f + 1) [.va (.int (a : Int)), .va (.int ((0 : Nat) : Int))] = .nx [.va (.int (a : Int)), .va (.int ((0 : Nat) : Int))] := by
  have d : decide (((0 : Nat) : Int) = 0) = true := rfl
  rw [whileL]
  simp only [ev_name, ev_c, ev_op2, ev_op1, ev_toR1, ev_toRL1, ev_nil, ev_cons, ev_opn, ev_opnN, ev_tup, ev_lst, ev_lstN, ev_new, ev_tst, ev_notT, ev_andT, ev_orT, ev_notF, ev_andF, ev_orF, ev_ifF, ev_yes, ev_iter, ev_rng1, ev_rng2, ev_rngW, ev_noP, ev_sl, ev_part, ev_next, ev_noG, ev_seq, ev_drop, ev_ret, ev_retN, ev_if, ev_asg, ev_setA, ev_nilA, ev_consA, ev_seqT, ev_seqL, ev_setN, ev_ok, ev_ioV, ev_ioU, ev_ioW, ev_owV, ev_owU, ev_own, ev_put, ev_ixOwn, ev_lenOwn, ev_setIx, ev_comp, ev_compL0, ev_compL1, ev_okC, ev_wipe1, ev_wipe0, ev_rest1, ev_rest0, ev_call, ev_callN, ev_ofr, ev_ofn, ev_ofnN, ev_mut, ev_mdl, ev_mdi, ev_io, ev_addI, ev_subI, ev_negI, ev_cmpI, ev_eqI, ev_neI, ev_eqS, ev_neS, ev_intI, ev_intB, ev_absI, ev_lenL, ev_lenT, ev_ixL, ev_ixT, ev_at0, ev_at1, ev_at2, ev_i30, ev_i31, ev_i32, ev_pk1, ev_pk2, ev_pk3, ev_pk4, ev_pkw1, ev_pkw2, ev_pkv2, ev_isI, ev_isN, ev_isB, ev_inI, ev_inN, ev_inB, ev_listT, ev_listL, ev_tupT, ev_tupL, ev_fld, ev_insAt, ev_fldOwn, ev_fldG, ev_meth, ev_make, ev_callL, ev_noLI, ev_nilL, ev_nameL, ev_lendL, ev_conL, ev_augIx, ev_putAt, ev_iadd, ev_isub, ev_revT, ev_enum, ev_zip, ev_seqDL, ev_seqDT, ev_nilM, ev_vaM, ev_owM, ev_parM, ev_app, ev_par, ev_par3, R.bind_ok, R.out_ok, Option.bind_some, List.getElem?_cons_succ, List.getElem?_cons_zero, List.set_cons_succ, List.set_cons_zero, List.length_cons, List.length_nil, Nat.reduceAdd, Nat.reduceEqDiff, List.getD_cons_succ, List.getD_cons_zero, decide_true, decide_false, Bool.and_true, Bool.and_self, and_self, true_and, List.all_cons, List.all_nil, Bool.not_true, Bool.not_false, if_true, Bool.true_eq_false, Bool.false_eq_true, if_false, d]
theorem while1 {a b f : Nat} (hb : 0 < b) : whileL (tstF (op2F neD (nameF 1) (cF (.int 0)))) g__law_gcd_b1 (f + 1) [.va (.int (a : Int)), .va (.int (b : Int))] = whileL (tstF (op2F neD (nameF 1) (cF (.int 0)))) g__law_gcd_b1 f [.va (.int (b : Int)), .va (.int ((a % b : Nat) : Int))] := by
  have d : decide ((b : Int) = 0) = false := decide_eq_false (by omega)
  have m : modD (.int (a : Int)) (.int (b : Int)) = some (.int ((a % b : Nat) : Int)) := ev_modI (by omega)
  rw [whileL]
  simp only [g__law_gcd_b1, ev_name, ev_c, ev_op2, ev_op1, ev_toR1, ev_toRL1, ev_nil, ev_cons, ev_opn, ev_opnN, ev_tup, ev_lst, ev_lstN, ev_new, ev_tst, ev_notT, ev_andT, ev_orT, ev_notF, ev_andF, ev_orF, ev_ifF, ev_yes, ev_iter, ev_rng1, ev_rng2, ev_rngW, ev_noP, ev_sl, ev_part, ev_next, ev_noG, ev_seq, ev_drop, ev_ret, ev_retN, ev_if, ev_asg, ev_setA, ev_nilA, ev_consA, ev_seqT, ev_seqL, ev_setN, ev_ok, ev_ioV, ev_ioU, ev_ioW, ev_owV, ev_owU, ev_own, ev_put, ev_ixOwn, ev_lenOwn, ev_setIx, ev_comp, ev_compL0, ev_compL1, ev_okC, ev_wipe1, ev_wipe0, ev_rest1, ev_rest0, ev_call, ev_callN, ev_ofr, ev_ofn, ev_ofnN, ev_mut, ev_mdl, ev_mdi, ev_io, ev_addI, ev_subI, ev_negI, ev_cmpI, ev_eqI, ev_neI, ev_eqS, ev_neS, ev_intI, ev_intB, ev_absI, ev_lenL, ev_lenT, ev_ixL, ev_ixT, ev_at0, ev_at1, ev_at2, ev_i30, ev_i31, ev_i32, ev_pk1, ev_pk2, ev_pk3, ev_pk4, ev_pkw1, ev_pkw2, ev_pkv2, ev_isI, ev_isN, ev_isB, ev_inI, ev_inN, ev_inB, ev_listT, ev_listL, ev_tupT, ev_tupL, ev_fld, ev_insAt, ev_fldOwn, ev_fldG, ev_meth, ev_make, ev_callL, ev_noLI, ev_nilL, ev_nameL, ev_lendL, ev_conL, ev_augIx, ev_putAt, ev_iadd, ev_isub, ev_revT, ev_enum, ev_zip, ev_seqDL, ev_seqDT, ev_nilM, ev_vaM, ev_owM, ev_parM, ev_app, ev_par, ev_par3, R.bind_ok, R.out_ok, Option.bind_some, List.getElem?_cons_succ, List.getElem?_cons_zero, List.set_cons_succ, List.set_cons_zero, List.length_cons, List.length_nil, Nat.reduceAdd, Nat.reduceEqDiff, List.getD_cons_succ, List.getD_cons_zero, decide_true, decide_false, Bool.and_true, Bool.and_self, and_self, true_and, List.all_cons, List.all_nil, Bool.not_true, Bool.not_false, if_true, Bool.true_eq_false, Bool.false_eq_true, if_false, d, m]
theorem gcd_loop : ∀ (n a b f : Nat), b < 2 ^ n → 2 * n + 1 ≤ f → whileL (tstF (op2F neD (nameF 1) (cF (.int 0)))) g__law_gcd_b1 f [.va (.int (a : Int)), .va (.int (b : Int))] = .nx [.va (.int ((a.gcd b : Nat) : Int)), .va (.int ((0 : Nat) : Int))] := by
  intro n
  induction n with
  | zero =>
    intro a b f h hf
    have : b = 0 := by
      rw [Nat.pow_zero] at h
      omega
    subst this
    obtain ⟨f, rfl⟩ : ∃ f', f = f' + 1 := ⟨f - 1, by omega⟩
    rw [while0, Nat.gcd_zero_right]
  | succ n ih =>
    intro a b f h hf
    obtain ⟨f, rfl⟩ : ∃ f', f = f' + 2 := ⟨f - 2, by omega⟩
    rcases Nat.eq_zero_or_pos b with h0 | h0
    · subst h0
      rw [while0, Nat.gcd_zero_right]
    · rw [while1 h0]
      have hr : a % b < b := Nat.mod_lt _ h0
      have eg : a.gcd b = b.gcd (a % b) := by rw [Nat.gcd_comm a b, Nat.gcd_rec b a, Nat.gcd_comm]
      rcases Nat.eq_zero_or_pos (a % b) with h1 | h1
      · rw [h1, while0, eg, h1, Nat.gcd_zero_right]
      · rw [while1 h1]
        have hr2 : b % (a % b) < a % b := Nat.mod_lt _ h1
        have hd := Nat.div_add_mod b (a % b)
        have hq : 1 ≤ b / (a % b) := (Nat.le_div_iff_mul_le h1).mpr (by omega)
        have hm : a % b * 1 ≤ a % b * (b / (a % b)) := Nat.mul_le_mul_left _ hq
        have e2 : 2 ^ (n + 1) = 2 * 2 ^ n := by rw [Nat.pow_succ, Nat.mul_comm]
        rw [ih (a % b) (b % (a % b)) f (by omega) (by omega), eg]
        rw [Nat.gcd_comm b (a % b), Nat.gcd_rec (a % b) b, Nat.gcd_comm]
theorem abs_nat (i : Int) : (if i < 0 then -i else i) = ((i.natAbs : Nat) : Int) := by split <;> omega
theorem law_gcd {t s : Int} {n : Nat} (h : Sz n s) (hn : n ≤ 100000) : F__law_gcd [.int t, .int s] = .ret (.int ((t.natAbs.gcd s.natAbs : Nat) : Int)) (.l []) := by
  obtain ⟨N, hN⟩ : ∃ N : Nat, N = 1000000 := ⟨_, rfl⟩
  have e := gcd_loop (n + 1) t.natAbs s.natAbs N h.nat (by omega)
  have hg : g__law_gcd = (seqG (parG 0 1 (consF (opnF absD (consF (opnF intD (consF (nameF 0) nilF)) nilF)) (consF (opnF absD (consF (opnF intD (consF (nameF 1) nilF)) nilF)) nilF))) (seqG (whileL (tstF (op2F neD (nameF 1) (cF (.int 0)))) g__law_gcd_b1 N) (retG (nameF 0)))) := by
    rw [hN]
    rfl
  have hb : g__law_gcd [.va (.int t), .va (.int s)] = .rt (.int ((t.natAbs.gcd s.natAbs : Nat) : Int)) [.va (.int ((t.natAbs.gcd s.natAbs : Nat) : Int)), .va (.int ((0 : Nat) : Int))] := by
    rw [hg]
    simp only [ev_name, ev_c, ev_op2, ev_op1, ev_toR1, ev_toRL1, ev_nil, ev_cons, ev_opn, ev_opnN, ev_tup, ev_lst, ev_lstN, ev_new, ev_tst, ev_notT, ev_andT, ev_orT, ev_notF, ev_andF, ev_orF, ev_ifF, ev_yes, ev_iter, ev_rng1, ev_rng2, ev_rngW, ev_noP, ev_sl, ev_part, ev_next, ev_noG, ev_seq, ev_drop, ev_ret, ev_retN, ev_if, ev_asg, ev_setA, ev_nilA, ev_consA, ev_seqT, ev_seqL, ev_setN, ev_ok, ev_ioV, ev_ioU, ev_ioW, ev_owV, ev_owU, ev_own, ev_put, ev_ixOwn, ev_lenOwn, ev_setIx, ev_comp, ev_compL0, ev_compL1, ev_okC, ev_wipe1, ev_wipe0, ev_rest1, ev_rest0, ev_call, ev_callN, ev_ofr, ev_ofn, ev_ofnN, ev_mut, ev_mdl, ev_mdi, ev_io, ev_addI, ev_subI, ev_negI, ev_cmpI, ev_eqI, ev_neI, ev_eqS, ev_neS, ev_intI, ev_intB, ev_absI, ev_lenL, ev_lenT, ev_ixL, ev_ixT, ev_at0, ev_at1, ev_at2, ev_i30, ev_i31, ev_i32, ev_pk1, ev_pk2, ev_pk3, ev_pk4, ev_pkw1, ev_pkw2, ev_pkv2, ev_isI, ev_isN, ev_isB, ev_inI, ev_inN, ev_inB, ev_listT, ev_listL, ev_tupT, ev_tupL, ev_fld, ev_insAt, ev_fldOwn, ev_fldG, ev_meth, ev_make, ev_callL, ev_noLI, ev_nilL, ev_nameL, ev_lendL, ev_conL, ev_augIx, ev_putAt, ev_iadd, ev_isub, ev_revT, ev_enum, ev_zip, ev_seqDL, ev_seqDT, ev_nilM, ev_vaM, ev_owM, ev_parM, ev_app, ev_par, ev_par3, R.bind_ok, R.out_ok, Option.bind_some, List.getElem?_cons_succ, List.getElem?_cons_zero, List.set_cons_succ, List.set_cons_zero, List.length_cons, List.length_nil, Nat.reduceAdd, Nat.reduceEqDiff, List.getD_cons_succ, List.getD_cons_zero, decide_true, decide_false, Bool.and_true, Bool.and_self, and_self, true_and, List.all_cons, List.all_nil, Bool.not_true, Bool.not_false, if_true, Bool.true_eq_false, Bool.false_eq_true, if_false, abs_nat, e]
  show outF false (g__law_gcd [.va (.int t), .va (.int s)]) = _
  rw [hb]
  rfl
theorem law_sum_g {Fn : List D → FR} {M Q : D → D → Option D} {t c : Int} {b d : Nat} {g : Int} (h1 : M (.int t) (.int (d:Int)) = some (.int (t * d))) (h3 : M (.int c) (.int (b:Int)) = some (.int (c * b))) (h2 : M (.int (b:Int)) (.int (d:Int)) = some (.int ((b*d : Nat) : Int))) {q1 q2 : Int} (eg : Fn [.int (t * d + c * b), .int ((b * d : Nat) : Int)] = .ret (.int g) (.l [])) (e1 : Q (.int (t * d + c * b)) (.int g) = some (.int q1)) (e2 : Q (.int ((b * d : Nat) : Int)) (.int g) = some (.int q2)) : (seqG (parG 2 3 (consF (op2F addD (op2F M (op2F ixD (nameF 0) (cF (.int 0))) (op2F ixD (nameF 1) (cF (.int 1)))) (op2F M (op2F ixD (nameF 1) (cF (.int 0))) (op2F ixD (nameF 0) (cF (.int 1))))) (consF (op2F M (op2F ixD (nameF 0) (cF (.int 1))) (op2F ixD (nameF 1) (cF (.int 1)))) nilF)))
    (seqG (asgG (callF Fn 2 (pickG 2 0 [] [0, 1]) (consF (nameF 2) (consF (nameF 3) nilF)) nilF) (setA 4))
    (retG (tupF (consF (op2F Q (nameF 2) (nameF 4)) (consF (op2F Q (nameF 3) (nameF 4)) nilF)))))) [.va (.tup [.int t, .int (b : Int)]), .va (.tup [.int c, .int (d : Int)]), .un, .un, .un] = .rt (.tup [.int q1, .int q2]) [.va (.tup [.int t, .int (b : Int)]), .va (.tup [.int c, .int (d : Int)]), .va (.int (t*d+c*b)), .va (.int ((b * d : Nat) : Int)), .va (.int g)] := by
    simp only [ev_name, ev_c, ev_op2, ev_op1, ev_toR1, ev_toRL1, ev_nil, ev_cons, ev_opn, ev_opnN, ev_tup, ev_lst, ev_lstN, ev_new, ev_tst, ev_notT, ev_andT, ev_orT, ev_notF, ev_andF, ev_orF, ev_ifF, ev_yes, ev_iter, ev_rng1, ev_rng2, ev_rngW, ev_noP, ev_sl, ev_part, ev_next, ev_noG, ev_seq, ev_drop, ev_ret, ev_retN, ev_if, ev_asg, ev_setA, ev_nilA, ev_consA, ev_seqT, ev_seqL, ev_setN, ev_ok, ev_ioV, ev_ioU, ev_ioW, ev_owV, ev_owU, ev_own, ev_put, ev_ixOwn, ev_lenOwn, ev_setIx, ev_comp, ev_compL0, ev_compL1, ev_okC, ev_wipe1, ev_wipe0, ev_rest1, ev_rest0, ev_call, ev_callN, ev_ofr, ev_ofn, ev_ofnN, ev_mut, ev_mdl, ev_mdi, ev_io, ev_addI, ev_subI, ev_negI, ev_cmpI, ev_eqI, ev_neI, ev_eqS, ev_neS, ev_intI, ev_intB, ev_absI, ev_lenL, ev_lenT, ev_ixL, ev_ixT, ev_at0, ev_at1, ev_at2, ev_i30, ev_i31, ev_i32, ev_pk1, ev_pk2, ev_pk3, ev_pk4, ev_pkw1, ev_pkw2, ev_pkv2, ev_isI, ev_isN, ev_isB, ev_inI, ev_inN, ev_inB, ev_listT, ev_listL, ev_tupT, ev_tupL, ev_fld, ev_insAt, ev_fldOwn, ev_fldG, ev_meth, ev_make, ev_callL, ev_noLI, ev_nilL, ev_nameL, ev_lendL, ev_conL, ev_augIx, ev_putAt, ev_iadd, ev_isub, ev_revT, ev_enum, ev_zip, ev_seqDL, ev_seqDT, ev_nilM, ev_vaM, ev_owM, ev_parM, ev_app, ev_par, ev_par3, R.bind_ok, R.out_ok, Option.bind_some, List.getElem?_cons_succ, List.getElem?_cons_zero, List.set_cons_succ, List.set_cons_zero, List.length_cons, List.length_nil, Nat.reduceAdd, Nat.reduceEqDiff, List.getD_cons_succ, List.getD_cons_zero, decide_true, decide_false, Bool.and_true, Bool.and_self, and_self, true_and, List.all_cons, List.all_nil, Bool.not_true, Bool.not_false, if_true, Bool.true_eq_false, Bool.false_eq_true, if_false, h1, h2, h3, eg, e1, e2, sz2]
theorem law_sum_t {t c : Int} {b d : Nat} {g : Int} (h1 : mulD (.int t) (.int (d:Int)) = some (.int (t * d))) (h3 : mulD (.int c) (.int (b:Int)) = some (.int (c * b))) (h2 : mulD (.int (b:Int)) (.int (d:Int)) = some (.int ((b*d : Nat) : Int))) {q1 q2 : Int} (eg : F__law_gcd [.int (t * d + c * b), .int ((b * d : Nat) : Int)] = .ret (.int g) (.l [])) (e1 : fdivD (.int (t * d + c * b)) (.int g) = some (.int q1)) (e2 : fdivD (.int ((b * d : Nat) : Int)) (.int g) = some (.int q2)) : F__law_sum [.tup [.int t, .int (b : Int)], .tup [.int c, .int (d : Int)]] = .ret (.tup [.int q1, .int q2]) (.l []) := by
  have hb : g__law_sum [.va (.tup [.int t, .int (b : Int)]), .va (.tup [.int c, .int (d : Int)]), .un, .un, .un] = .rt (.tup [.int q1, .int q2]) [.va (.tup [.int t, .int (b : Int)]), .va (.tup [.int c, .int (d : Int)]), .va (.int (t*d+c*b)), .va (.int ((b * d : Nat) : Int)), .va (.int g)] := law_sum_g h1 h3 h2 eg e1 e2
  show outF false (g__law_sum [.va (.tup [.int t, .int (b : Int)]), .va (.tup [.int c, .int (d : Int)]), .un, .un, .un]) = _
  rw [hb]
  rfl
theorem law_sum {t c : Int} {b d k : Nat} (hb : 0 < b) (hd : 0 < d) (h1 : Sz k t) (h2 : Sz k (b : Int)) (h3 : Sz k c) (h4 : Sz k (d : Int)) (hk : k ≤ 3000) : F__law_sum [.tup [.int t, .int (b : Int)], .tup [.int c, .int (d : Int)]] = .ret (fr (mkRat (t * d + c * b) (b * d))) (.l []) := by
  have hbd : 0 < b * d := Nat.mul_pos hb hd
  have ebd : (b : Int) * (d : Int) = ((b * d : Nat) : Int) := (Int.natCast_mul b d).symm
  have sbd : Sz (k + k) ((b * d : Nat) : Int) := by rw [← ebd]; exact h2.mul h4
  obtain ⟨g0, gs⟩ := gcd_sz (t := t * d + c * b) hbd sbd
  have eg := law_gcd (t := t * d + c * b) (s := ((b * d : Nat) : Int)) sbd (by omega)
  rw [show ((b * d : Nat) : Int).natAbs = b * d by omega] at eg
  have m2 := mulW h2 h4 (by omega)
  rw [ebd] at m2
  rw [mk_norm _ hbd]
  exact law_sum_t (mulW h1 h4 (by omega)) (mulW h3 h2 (by omega)) m2 eg (fdivW g0 gs (by omega)) (fdivW g0 gs (by omega))
theorem rat_self (q : Rat) : q = (q.num : Rat) / (q.den : Rat) := by
  rw [← Rat.mkRat_eq_div]
  exact (Rat.mkRat_self q).symm
theorem den_ne (q : Rat) : (q.den : Rat) ≠ 0 := fun z => by
  have : q.den = 0 := by exact_mod_cast z
  exact q.den_nz this
theorem nat_ne {d : Nat} (h : 0 < d) : (d : Rat) ≠ 0 := fun z => by
  have : d = 0 := by exact_mod_cast z
  omega
/-- a fraction whose parts are below 2 ^ 400 -/
def Sq (q : Rat) : Prop := Sz 400 q.num ∧ Sz 400 ((q.den : Nat) : Int)
theorem den_pos (q : Rat) : 0 < q.den := Nat.pos_of_ne_zero q.den_nz
theorem law_add {p : Rat} {c : Int} {d : Nat} (hp : Sq p) (hd : 0 < d) (h3 : Sz 1000 c) (h4 : Sz 1000 (d : Int)) : F__law_sum [fr p, .tup [.int c, .int (d : Int)]] = .ret (fr (p + (c : Rat) / (d : Rat))) (.l []) := by
  have e := law_sum (t := p.num) (c := c) (b := p.den) (d := d) (k := 1000) (den_pos p) hd (hp.1.mono (by decide)) (hp.2.mono (by decide)) h3 h4 (by decide)
  have e2 : mkRat (p.num * d + c * p.den) (p.den * d) = p + (c : Rat) / (d : Rat) := by
    have h1 := den_ne p
    have h2 := nat_ne hd
    rw [Rat.mkRat_eq_div, Rat.intCast_add, Rat.intCast_mul, Rat.intCast_mul, Rat.natCast_mul, Rat.intCast_natCast, Rat.intCast_natCast]
    conv => rhs; rw [rat_self p]
    grind
  rw [e2] at e
  exact e
/-! ### rows as lists -/
def rowD (n : Nat) (f : Nat → Rat) : List D := (List.range n).map fun j => fr (f j)
def matD (n : Nat) (A : Mat) : List D := (List.range n).map fun i => .lst (rowD n (A i))
def matT (n : Nat) (A : Mat) : D := .tup ((List.range n).map fun i => .tup (rowD n (A i)))
theorem row_get {n j : Nat} {f : Nat → Rat} (h : j < n) : (rowD n f)[j]? = some (fr (f j)) := by
  unfold rowD
  rw [List.getElem?_map, List.getElem?_range h]
  rfl
theorem mat_get {n i : Nat} {A : Mat} (h : i < n) : (matD n A)[i]? = some (.lst (rowD n (A i))) := by
  unfold matD
  rw [List.getElem?_map, List.getElem?_range h]
  rfl
theorem row_len {n : Nat} {f : Nat → Rat} : (rowD n f).length = n := by unfold rowD; rw [List.length_map, List.length_range]
theorem mat_len {n : Nat} {A : Mat} : (matD n A).length = n := by unfold matD; rw [List.length_map, List.length_range]
theorem map_set {n t : Nat} {g : Nat → D} {v : D} : ((List.range n).map g).set t v = (List.range n).map fun i => if i = t then v else g i := by
  refine List.ext_getElem? fun i => ?_
  by_cases h : t = i
  · subst h
    by_cases hn : t < n
    · rw [List.getElem?_set_self (by rw [List.length_map, List.length_range]; exact hn), List.getElem?_map, List.getElem?_range hn]
      show some v = some (if t = t then v else g t)
      rw [if_pos rfl]
    · rw [List.getElem?_eq_none (by rw [List.length_set, List.length_map, List.length_range]; omega), List.getElem?_eq_none (by rw [List.length_map, List.length_range]; omega)]
  · rw [List.getElem?_set_ne h, List.getElem?_map, List.getElem?_map]
    by_cases hn : i < n
    · rw [List.getElem?_range hn]
      show some (g i) = some (if i = t then v else g i)
      rw [if_neg (fun z => h z.symm)]
    · rw [List.getElem?_eq_none (by rw [List.length_range]; omega)]
      rfl
def updM (A : Mat) (t : Nat) (f : Nat → Rat) : Mat := fun i j => if i = t then f j else A i j
theorem mat_set {n t : Nat} {A : Mat} {f : Nat → Rat} : (matD n A).set t (.lst (rowD n f)) = matD n (updM A t f) := by
  unfold matD
  rw [map_set]
  refine List.map_congr_left fun i _ => ?_
  unfold updM
  by_cases h : i = t
  · rw [if_pos h]
    congr 1
    unfold rowD
    exact List.map_congr_left fun j _ => by show fr (f j) = fr (if i = t then f j else A i j); rw [if_pos h]
  · rw [if_neg h]
    congr 1
    unfold rowD
    exact List.map_congr_left fun j _ => by show fr (A i j) = fr (if i = t then f j else A i j); rw [if_neg h]
theorem upd_upd {A : Mat} {t : Nat} {f g : Nat → Rat} : updM (updM A t f) t g = updM A t g := by
  funext i j
  unfold updM
  split <;> rfl
theorem upd_self {A : Mat} {t : Nat} : updM A t (A t) = A := by
  funext i j
  unfold updM
  split
  · rename_i h; rw [h]
  · rfl
/-- steps, whatever they add -/
structure Stp.Okw (w : Int) (s : Stp) : Prop where
  t0 : 0 ≤ s.t
  t1 : s.t < w
  p : PsOk w s.t w s.ps
  len : (s.ps.length : Int) ≤ w - 1
  o0 : 1 ≤ s.o
  o1 : s.o ≤ 9
theorem Stp.Ok.w {w : Int} {s : Stp} (h : s.Ok w) : s.Okw w := ⟨h.t0, h.t1, h.p, h.len, h.o0, h.o1⟩
/-- what the first parts make of a row -/
def rowP (s : Stp) (A : Mat) (ps : List (Int × Int)) : Nat → Rat := fun j => ps.foldl (fun x p => x + cf s p * A p.1.toNat j) (A s.t.toNat j)
def SqR (n : Nat) (f : Nat → Rat) : Prop := ∀ j, j < n → Sq (f j)
theorem rop_upd (s : Stp) (A : Mat) : rop s A = updM A s.t.toNat (rowP s A s.ps) := rfl
theorem cf_step {s : Stp} {x : Int} {f q : Rat} (o0 : 1 ≤ s.o) {d : Nat} (hd : d = s.o.toNat) : f + ((x * q.num : Int) : Rat) / ((q.den * d : Nat) : Rat) = f + (x : Rat) / (s.o : Rat) * q := by
  have h1 := den_ne q
  have eo : (s.o : Rat) = (d : Rat) := by
    have : s.o = ((d : Nat) : Int) := by omega
    rw [this, Rat.intCast_natCast]
  have h2 : (d : Rat) ≠ 0 := nat_ne (by omega)
  rw [eo, Rat.intCast_mul, Rat.natCast_mul]
  conv => rhs; rw [rat_self q]
  grind
end Fx

set_option Elab.async false
set_option linter.all false
set_option maxRecDepth 100000
namespace Fx
open PySem L2 PyProof.Rows
set_option maxHeartbeats 1000000
theorem nth_lt {n : Nat} {w : Int} {p : Int} (h : (n : Int) = w) (h0 : 0 ≤ p) (h1 : p < w) : p.toNat < n := by omega
theorem at_nat {ds : List D} {p : Int} {d : D} (h0 : 0 ≤ p) (h : ds[p.toNat]? = some d) : atD ds p = some d := ev_int h0 h
theorem fr_num (q : Rat) : fr q = .tup [.int q.num, .int ((q.den : Nat) : Int)] := rfl
theorem Sz9 {x : Int} (h1 : -9 ≤ x) (h2 : x ≤ 9) : Sz 4 x := ⟨by show -16 ≤ x; omega, by show x ≤ 16; omega⟩
theorem if_if {P : Nat → Prop} {j m : Nat} {a b : Rat} (h : a = b) : a = b := h
theorem far_b1_g {M : D → D → Option D} {Fn : List D → FR} {L L' : List D} {i c d u v x o a1 a2 a3 a4 b1 b2 : Int} {k : Nat} {r : D} {x0 x1 x2 x3 x4 x7 y12 y13 : Sl} (ix : atD L i = some (.tup [.int c, .int d])) (in0 : ixN L.length i = some k)
    (m1 : M (.int c) (.int v) = some (.int a1)) (m2 : M (.int a1) (.int o) = some (.int a2)) (m3 : M (.int x) (.int u) = some (.int a3)) (m4 : M (.int a3) (.int d) = some (.int a4)) (m5 : M (.int d) (.int v) = some (.int b1)) (m6 : M (.int b1) (.int o) = some (.int b2))
    (et : Fn [.int (a2 + a4), .int b2] = .ret r (.l [])) (hs : L.set k r = L') (r12 : Pl y12) (r13 : Pl y13) :
    (seqG (asgG (ixOwnF 6 (nameF 9)) (seqA 2 (consA (setA 12) (consA (setA 13) nilA))))
    (setIxG 6 (nameF 9) (callF Fn 2 (pickG 2 0 [] [0, 1]) (consF (op2F addD (op2F M (op2F M (nameF 12) (nameF 11)) (nameF 5)) (op2F M (op2F M (nameF 8) (nameF 10)) (nameF 13))) (consF (op2F M (op2F M (nameF 13) (nameF 11)) (nameF 5)) nilF)) nilF))) [x0, x1, x2, x3, x4, .va (.int o), .ow (.l L), x7, .va (.int x), .va (.int i), .va (.int u), .va (.int v), y12, y13] = .nx [x0, x1, x2, x3, x4, .va (.int o), .ow (.l L'), x7, .va (.int x), .va (.int i), .va (.int u), .va (.int v), .va (.int c), .va (.int d)] := by
  have sq : ∀ (b : ASs) (t : List Sl), seqA 2 b (.tup [.int c, .int d]) t = b [.int c, .int d] t := fun _ _ => rfl
  simp only [ev_name, ev_c, ev_op2, ev_op1, ev_toR1, ev_toRL1, ev_nil, ev_cons, ev_opn, ev_opnN, ev_tup, ev_lst, ev_lstN, ev_new, ev_tst, ev_notT, ev_andT, ev_orT, ev_notF, ev_andF, ev_orF, ev_ifF, ev_yes, ev_iter, ev_rng1, ev_rng2, ev_rngW, ev_noP, ev_sl, ev_part, ev_next, ev_noG, ev_seq, ev_drop, ev_ret, ev_retN, ev_if, ev_asg, ev_setA, ev_nilA, ev_consA, ev_seqT, ev_seqL, ev_setN, ev_ok, ev_ioV, ev_ioU, ev_ioW, ev_owV, ev_owU, ev_own, ev_put, ev_ixOwn, ev_lenOwn, ev_setIx, ev_comp, ev_compL0, ev_compL1, ev_okC, ev_wipe1, ev_wipe0, ev_rest1, ev_rest0, ev_call, ev_callN, ev_ofr, ev_ofn, ev_ofnN, ev_mut, ev_mdl, ev_mdi, ev_io, ev_addI, ev_subI, ev_negI, ev_cmpI, ev_eqI, ev_neI, ev_eqS, ev_neS, ev_intI, ev_intB, ev_absI, ev_lenL, ev_lenT, ev_ixL, ev_ixT, ev_at0, ev_at1, ev_at2, ev_i30, ev_i31, ev_i32, ev_pk1, ev_pk2, ev_pk3, ev_pk4, ev_pkw1, ev_pkw2, ev_pkv2, ev_isI, ev_isN, ev_isB, ev_inI, ev_inN, ev_inB, ev_listT, ev_listL, ev_tupT, ev_tupL, ev_fld, ev_insAt, ev_fldOwn, ev_fldG, ev_meth, ev_make, ev_callL, ev_noLI, ev_nilL, ev_nameL, ev_lendL, ev_conL, ev_augIx, ev_putAt, ev_iadd, ev_isub, ev_revT, ev_enum, ev_zip, ev_seqDL, ev_seqDT, ev_nilM, ev_vaM, ev_owM, ev_parM, ev_app, ev_par, ev_par3, R.bind_ok, R.out_ok, Option.bind_some, List.getElem?_cons_succ, List.getElem?_cons_zero, List.set_cons_succ, List.set_cons_zero, List.length_cons, List.length_nil, Nat.reduceAdd, Nat.reduceEqDiff, List.getD_cons_succ, List.getD_cons_zero, decide_true, decide_false, Bool.and_true, Bool.and_self, and_self, true_and, List.all_cons, List.all_nil, Bool.not_true, Bool.not_false, if_true, Bool.true_eq_false, Bool.false_eq_true, if_false, ix, sq, r12.1, r13.1, m1, m2, m3, m4, m5, m6, et, in0, hs]
/-- one part of a step, in the program: the row found is changed place by place -/
theorem far_inner {w : Int} {n : Nat} {s : Stp} {A : Mat} {f : Nat → Rat} {p : Int × Int} {x2 x3 x4 y9 y10 y11 y12 y13 : Sl} (ok : s.Okw w) (hn : (n : Int) = w) (hp : p ∈ s.ps) (hf : SqR n f) (hA : SqR n (A p.1.toNat)) (hF : ∀ j, j < n → Sq (f j + (p.2 : Rat) / (s.o : Rat) * A p.1.toNat j)) (q9 : Pl y9) (q10 : Pl y10) (q11 : Pl y11) (q12 : Pl y12) (q13 : Pl y13) :
    ∃ z9 z10 z11 z12 z13, g_far_sum_b2 [.va (.lst (matD n A)), .va s.d, x2, x3, x4, .va (.int s.o), .ow (.l (rowD n f)), .va (.int p.1), .va (.int p.2), y9, y10, y11, y12, y13] = .nx [.va (.lst (matD n A)), .va s.d, x2, x3, x4, .va (.int s.o), .ow (.l (rowD n fun j => f j + (p.2 : Rat) / (s.o : Rat) * A p.1.toNat j)), .va (.int p.1), .va (.int p.2), z9, z10, z11, z12, z13] ∧ Pl z9 ∧ Pl z10 ∧ Pl z11 ∧ Pl z12 ∧ Pl z13 := by
  obtain ⟨p1, p2, p3, p4, p5, p6⟩ := ok.p.pr p hp
  have o0 := ok.o0
  have o1 := ok.o1
  have hlt := nth_lt hn p1 p2
  have ixr : ixD (.lst (matD n A)) (.int p.1) = some (.lst (rowD n (A p.1.toNat))) := at_nat p1 (mat_get hlt)
  have eo : (s.o : Int) = ((s.o.toNat : Nat) : Int) := by omega
  have so : Sz 4 s.o := ⟨by show -16 ≤ s.o; omega, by show s.o ≤ 16; omega⟩
  have sx := Sz9 p4 p5
  have e0 : (rowD n fun j => if j < 0 then f j + (p.2 : Rat) / (s.o : Rat) * A p.1.toNat j else f j) = rowD n f := by
    unfold rowD
    refine List.map_congr_left fun j _ => ?_
    dsimp only
    rw [if_neg (by omega)]
  obtain ⟨s', e, z9, z10, z11, z12, z13, rfl, r9, r10, r11, r12, r13⟩ := forL_run (a := seqA 2 (consA (setA 9) (consA (seqA 2 (consA (setA 10) (consA (setA 11) nilA))) nilA))) (G1 := g_far_sum_b1)
    (I := fun m s' => ∃ z9 z10 z11 z12 z13, s' = [.va (.lst (matD n A)), .va s.d, x2, x3, x4, .va (.int s.o), .ow (.l (rowD n fun j => if j < m then f j + (p.2 : Rat) / (s.o : Rat) * A p.1.toNat j else f j)), .va (.int p.1), .va (.int p.2), z9, z10, z11, z12, z13] ∧ Pl z9 ∧ Pl z10 ∧ Pl z11 ∧ Pl z12 ∧ Pl z13)
    (enumD (rowD n (A p.1.toNat))) 0 _ ⟨y9, y10, y11, y12, y13, by rw [e0], q9, q10, q11, q12, q13⟩ fun m d s' e i => by
      obtain ⟨z9, z10, z11, z12, z13, rfl, r9, r10, r11, r12, r13⟩ := i
      rw [Nat.zero_add]
      have hm : m < n := by
        have := (List.getElem?_eq_some_iff.mp e).1
        rwa [enumD_length, row_len] at this
      obtain ⟨x, hx, rfl⟩ := enumD_get e
      rw [row_get hm] at hx
      cases hx
      have hq := hA m hm
      have hfm := hf m hm
      have gx : (rowD n fun j => if j < m then f j + (p.2 : Rat) / (s.o : Rat) * A p.1.toNat j else f j)[m]? = some (fr (f m)) := by
        rw [row_get hm, if_neg (Nat.lt_irrefl m)]
      have ixm : atD (rowD n fun j => if j < m then f j + (p.2 : Rat) / (s.o : Rat) * A p.1.toNat j else f j) (m : Int) = some (fr (f m)) := ev_nat gx
      have in0 : ixN (rowD n fun j => if j < m then f j + (p.2 : Rat) / (s.o : Rat) * A p.1.toNat j else f j).length (m : Int) = some m := by
        rw [ev_ixN (by omega) (by rw [row_len]; omega)]
        rw [Int.toNat_natCast]
      have m1 := mulW hfm.1 hq.2 (by decide)
      have m2 := mulW (hfm.1.mul hq.2) so (by decide)
      have m3 := mulW sx hq.1 (by decide)
      have m4 := mulW (sx.mul hq.1) hfm.2 (by decide)
      have m5 := mulW hfm.2 hq.2 (by decide)
      have m6 := mulW (hfm.2.mul hq.2) so (by decide)
      have ed : ((f m).den : Int) * ((A p.1.toNat m).den : Int) * s.o = (((f m).den * (A p.1.toNat m).den * s.o.toNat : Nat) : Int) := by
        rw [Int.natCast_mul, Int.natCast_mul, ← eo]
      have sd : Sz 1000 (((f m).den * (A p.1.toNat m).den * s.o.toNat : Nat) : Int) := by
        rw [← ed]
        exact ((hfm.2.mul hq.2).mul so).mono (by decide)
      have hpos : 0 < (f m).den * (A p.1.toNat m).den * s.o.toNat := Nat.mul_pos (Nat.mul_pos (den_pos _) (den_pos _)) (by omega)
      have et := in_terms (t := (f m).num * ((A p.1.toNat m).den : Int) * s.o + p.2 * (A p.1.toNat m).num * ((f m).den : Int)) hpos sd (by decide)
      have eq : mkRat ((f m).num * ((A p.1.toNat m).den : Int) * s.o + p.2 * (A p.1.toNat m).num * ((f m).den : Int)) ((f m).den * (A p.1.toNat m).den * s.o.toNat) = f m + (p.2 : Rat) / (s.o : Rat) * A p.1.toNat m := by
        have h1 := den_ne (f m)
        have h2 := den_ne (A p.1.toNat m)
        have e3 : (s.o : Rat) = ((s.o.toNat : Nat) : Rat) := by rw [← Rat.intCast_natCast, ← eo]
        have h3 : ((s.o.toNat : Nat) : Rat) ≠ 0 := nat_ne (by omega)
        rw [Rat.mkRat_eq_div, Rat.intCast_add, Rat.intCast_mul, Rat.intCast_mul, Rat.intCast_mul, Rat.intCast_mul, Rat.natCast_mul, Rat.natCast_mul, Rat.intCast_natCast, Rat.intCast_natCast, e3]
        conv => rhs; rw [rat_self (f m), rat_self (A p.1.toNat m)]
        grind
      rw [eq] at et
      have hset : (rowD n fun j => if j < m then f j + (p.2 : Rat) / (s.o : Rat) * A p.1.toNat j else f j).set m (fr (f m + (p.2 : Rat) / (s.o : Rat) * A p.1.toNat m)) = rowD n fun j => if j < m + 1 then f j + (p.2 : Rat) / (s.o : Rat) * A p.1.toNat j else f j := by
        unfold rowD
        rw [map_set]
        refine List.map_congr_left fun j _ => ?_
        dsimp only
        by_cases h1 : j = m
        · subst h1
          rw [if_pos rfl, if_pos (by omega)]
        · rw [if_neg h1]
          by_cases h2 : j < m
          · rw [if_pos h2, if_pos (by omega)]
          · rw [if_neg h2, if_neg (by omega)]
      refine ⟨[.va (.lst (matD n A)), .va s.d, x2, x3, x4, .va (.int s.o), .ow (.l (rowD n fun j => if j < m then f j + (p.2 : Rat) / (s.o : Rat) * A p.1.toNat j else f j)), .va (.int p.1), .va (.int p.2), .va (.int (m : Int)), .va (.int (A p.1.toNat m).num), .va (.int ((A p.1.toNat m).den : Int)), z12, z13], _, ?_, .inl ?_, .va (.int (m : Int)), .va (.int (A p.1.toNat m).num), .va (.int ((A p.1.toNat m).den : Int)), .va (.int (f m).num), .va (.int ((f m).den : Int)), rfl, Pl.va, Pl.va, Pl.va, Pl.va, Pl.va⟩
      · rw [fr_num]
        simp only [ev_name, ev_c, ev_op2, ev_op1, ev_toR1, ev_toRL1, ev_nil, ev_cons, ev_opn, ev_opnN, ev_tup, ev_lst, ev_lstN, ev_new, ev_tst, ev_notT, ev_andT, ev_orT, ev_notF, ev_andF, ev_orF, ev_ifF, ev_yes, ev_iter, ev_rng1, ev_rng2, ev_rngW, ev_noP, ev_sl, ev_part, ev_next, ev_noG, ev_seq, ev_drop, ev_ret, ev_retN, ev_if, ev_asg, ev_setA, ev_nilA, ev_consA, ev_seqT, ev_seqL, ev_setN, ev_ok, ev_ioV, ev_ioU, ev_ioW, ev_owV, ev_owU, ev_own, ev_put, ev_ixOwn, ev_lenOwn, ev_setIx, ev_comp, ev_compL0, ev_compL1, ev_okC, ev_wipe1, ev_wipe0, ev_rest1, ev_rest0, ev_call, ev_callN, ev_ofr, ev_ofn, ev_ofnN, ev_mut, ev_mdl, ev_mdi, ev_io, ev_addI, ev_subI, ev_negI, ev_cmpI, ev_eqI, ev_neI, ev_eqS, ev_neS, ev_intI, ev_intB, ev_absI, ev_lenL, ev_lenT, ev_ixL, ev_ixT, ev_at0, ev_at1, ev_at2, ev_i30, ev_i31, ev_i32, ev_pk1, ev_pk2, ev_pk3, ev_pk4, ev_pkw1, ev_pkw2, ev_pkv2, ev_isI, ev_isN, ev_isB, ev_inI, ev_inN, ev_inB, ev_listT, ev_listL, ev_tupT, ev_tupL, ev_fld, ev_insAt, ev_fldOwn, ev_fldG, ev_meth, ev_make, ev_callL, ev_noLI, ev_nilL, ev_nameL, ev_lendL, ev_conL, ev_augIx, ev_putAt, ev_iadd, ev_isub, ev_revT, ev_enum, ev_zip, ev_seqDL, ev_seqDT, ev_nilM, ev_vaM, ev_owM, ev_parM, ev_app, ev_par, ev_par3, R.bind_ok, R.out_ok, Option.bind_some, List.getElem?_cons_succ, List.getElem?_cons_zero, List.set_cons_succ, List.set_cons_zero, List.length_cons, List.length_nil, Nat.reduceAdd, Nat.reduceEqDiff, List.getD_cons_succ, List.getD_cons_zero, decide_true, decide_false, Bool.and_true, Bool.and_self, and_self, true_and, List.all_cons, List.all_nil, Bool.not_true, Bool.not_false, if_true, Bool.true_eq_false, Bool.false_eq_true, if_false, r9.1, r10.1, r11.1]
      · exact far_b1_g ixm in0 m1 m2 m3 m4 m5 (ed ▸ m6) et hset r12 r13
  rw [enumD_length, row_len] at e
  have ef : (rowD n fun j => if j < 0 + n then f j + (p.2 : Rat) / (s.o : Rat) * A p.1.toNat j else f j) = rowD n fun j => f j + (p.2 : Rat) / (s.o : Rat) * A p.1.toNat j := by
    unfold rowD
    refine List.map_congr_left fun j hj => ?_
    show fr (if j < 0 + n then _ else _) = _
    rw [if_pos (by have := List.mem_range.mp hj; omega)]
  rw [ef] at e
  refine ⟨z9, z10, z11, z12, z13, ?_, r9, r10, r11, r12, r13⟩
  rw [← e]
  unfold g_far_sum_b2
  generalize g_far_sum_b1 = B
  simp only [ev_name, ev_c, ev_op2, ev_op1, ev_toR1, ev_toRL1, ev_nil, ev_cons, ev_opn, ev_opnN, ev_tup, ev_lst, ev_lstN, ev_new, ev_tst, ev_notT, ev_andT, ev_orT, ev_notF, ev_andF, ev_orF, ev_ifF, ev_yes, ev_iter, ev_rng1, ev_rng2, ev_rngW, ev_noP, ev_sl, ev_part, ev_next, ev_noG, ev_seq, ev_drop, ev_ret, ev_retN, ev_if, ev_asg, ev_setA, ev_nilA, ev_consA, ev_seqT, ev_seqL, ev_setN, ev_ok, ev_ioV, ev_ioU, ev_ioW, ev_owV, ev_owU, ev_own, ev_put, ev_ixOwn, ev_lenOwn, ev_setIx, ev_comp, ev_compL0, ev_compL1, ev_okC, ev_wipe1, ev_wipe0, ev_rest1, ev_rest0, ev_call, ev_callN, ev_ofr, ev_ofn, ev_ofnN, ev_mut, ev_mdl, ev_mdi, ev_io, ev_addI, ev_subI, ev_negI, ev_cmpI, ev_eqI, ev_neI, ev_eqS, ev_neS, ev_intI, ev_intB, ev_absI, ev_lenL, ev_lenT, ev_ixL, ev_ixT, ev_at0, ev_at1, ev_at2, ev_i30, ev_i31, ev_i32, ev_pk1, ev_pk2, ev_pk3, ev_pk4, ev_pkw1, ev_pkw2, ev_pkv2, ev_isI, ev_isN, ev_isB, ev_inI, ev_inN, ev_inB, ev_listT, ev_listL, ev_tupT, ev_tupL, ev_fld, ev_insAt, ev_fldOwn, ev_fldG, ev_meth, ev_make, ev_callL, ev_noLI, ev_nilL, ev_nameL, ev_lendL, ev_conL, ev_augIx, ev_putAt, ev_iadd, ev_isub, ev_revT, ev_enum, ev_zip, ev_seqDL, ev_seqDT, ev_nilM, ev_vaM, ev_owM, ev_parM, ev_app, ev_par, ev_par3, R.bind_ok, R.out_ok, Option.bind_some, List.getElem?_cons_succ, List.getElem?_cons_zero, List.set_cons_succ, List.set_cons_zero, List.length_cons, List.length_nil, Nat.reduceAdd, Nat.reduceEqDiff, List.getD_cons_succ, List.getD_cons_zero, decide_true, decide_false, Bool.and_true, Bool.and_self, and_self, true_and, List.all_cons, List.all_nil, Bool.not_true, Bool.not_false, if_true, Bool.true_eq_false, Bool.false_eq_true, if_false, ev_for, ixr, e0]
theorem far_parts {w : Int} {n : Nat} {s : Stp} {A : Mat} {x2 x3 x4 : Sl} (ok : s.Okw w) (hn : (n : Int) = w) (hA : ∀ i, SqR n (A i)) : ∀ (ps : List (Int × Int)) (f : Nat → Rat) (y7 y8 y9 y10 y11 y12 y13 : Sl), (∀ p ∈ ps, p ∈ s.ps) → (∀ ps1 ps2, ps = ps1 ++ ps2 → SqR n fun j => ps1.foldl (fun x p => x + cf s p * A p.1.toNat j) (f j)) → Pl y7 → Pl y8 → Pl y9 → Pl y10 → Pl y11 → Pl y12 → Pl y13 →
    ∃ z7 z8 z9 z10 z11 z12 z13, forL (seqA 2 (consA (setA 7) (consA (setA 8) nilA))) g_far_sum_b2 (ps.map pairD) [.va (.lst (matD n A)), .va s.d, x2, x3, x4, .va (.int s.o), .ow (.l (rowD n f)), y7, y8, y9, y10, y11, y12, y13] = .nx [.va (.lst (matD n A)), .va s.d, x2, x3, x4, .va (.int s.o), .ow (.l (rowD n fun j => ps.foldl (fun x p => x + cf s p * A p.1.toNat j) (f j))), z7, z8, z9, z10, z11, z12, z13]
  | [], f, y7, y8, y9, y10, y11, y12, y13, _, _, _, _, _, _, _, _, _ => ⟨y7, y8, y9, y10, y11, y12, y13, rfl⟩
  | p :: ps, f, y7, y8, y9, y10, y11, y12, y13, hm, hS, q7, q8, q9, q10, q11, q12, q13 => by
    have hp := hm p List.mem_cons_self
    obtain ⟨z9, z10, z11, z12, z13, e, r9, r10, r11, r12, r13⟩ := far_inner (x2 := x2) (x3 := x3) (x4 := x4) (f := f) ok hn hp (hS [] _ rfl) (hA _) (fun j hj => hS [p] ps rfl j hj) q9 q10 q11 q12 q13
    obtain ⟨t7, t8, t9, t10, t11, t12, t13, e2⟩ := far_parts (x2 := x2) (x3 := x3) (x4 := x4) ok hn hA ps (fun j => f j + (p.2 : Rat) / (s.o : Rat) * A p.1.toNat j) (.va (.int p.1)) (.va (.int p.2)) z9 z10 z11 z12 z13 (fun q hq => hm q (List.mem_cons_of_mem _ hq)) (fun ps1 ps2 e => hS (p :: ps1) ps2 (by rw [e]; rfl)) Pl.va Pl.va r9 r10 r11 r12 r13
    refine ⟨t7, t8, t9, t10, t11, t12, t13, ?_⟩
    have ea : seqA 2 (consA (setA 7) (consA (setA 8) nilA)) (pairD p) [.va (.lst (matD n A)), .va s.d, x2, x3, x4, .va (.int s.o), .ow (.l (rowD n f)), y7, y8, y9, y10, y11, y12, y13] = some [.va (.lst (matD n A)), .va s.d, x2, x3, x4, .va (.int s.o), .ow (.l (rowD n f)), .va (.int p.1), .va (.int p.2), y9, y10, y11, y12, y13] := by
      unfold pairD
      simp only [ev_name, ev_c, ev_op2, ev_op1, ev_toR1, ev_toRL1, ev_nil, ev_cons, ev_opn, ev_opnN, ev_tup, ev_lst, ev_lstN, ev_new, ev_tst, ev_notT, ev_andT, ev_orT, ev_notF, ev_andF, ev_orF, ev_ifF, ev_yes, ev_iter, ev_rng1, ev_rng2, ev_rngW, ev_noP, ev_sl, ev_part, ev_next, ev_noG, ev_seq, ev_drop, ev_ret, ev_retN, ev_if, ev_asg, ev_setA, ev_nilA, ev_consA, ev_seqT, ev_seqL, ev_setN, ev_ok, ev_ioV, ev_ioU, ev_ioW, ev_owV, ev_owU, ev_own, ev_put, ev_ixOwn, ev_lenOwn, ev_setIx, ev_comp, ev_compL0, ev_compL1, ev_okC, ev_wipe1, ev_wipe0, ev_rest1, ev_rest0, ev_call, ev_callN, ev_ofr, ev_ofn, ev_ofnN, ev_mut, ev_mdl, ev_mdi, ev_io, ev_addI, ev_subI, ev_negI, ev_cmpI, ev_eqI, ev_neI, ev_eqS, ev_neS, ev_intI, ev_intB, ev_absI, ev_lenL, ev_lenT, ev_ixL, ev_ixT, ev_at0, ev_at1, ev_at2, ev_i30, ev_i31, ev_i32, ev_pk1, ev_pk2, ev_pk3, ev_pk4, ev_pkw1, ev_pkw2, ev_pkv2, ev_isI, ev_isN, ev_isB, ev_inI, ev_inN, ev_inB, ev_listT, ev_listL, ev_tupT, ev_tupL, ev_fld, ev_insAt, ev_fldOwn, ev_fldG, ev_meth, ev_make, ev_callL, ev_noLI, ev_nilL, ev_nameL, ev_lendL, ev_conL, ev_augIx, ev_putAt, ev_iadd, ev_isub, ev_revT, ev_enum, ev_zip, ev_seqDL, ev_seqDT, ev_nilM, ev_vaM, ev_owM, ev_parM, ev_app, ev_par, ev_par3, R.bind_ok, R.out_ok, Option.bind_some, List.getElem?_cons_succ, List.getElem?_cons_zero, List.set_cons_succ, List.set_cons_zero, List.length_cons, List.length_nil, Nat.reduceAdd, Nat.reduceEqDiff, List.getD_cons_succ, List.getD_cons_zero, decide_true, decide_false, Bool.and_true, Bool.and_self, and_self, true_and, List.all_cons, List.all_nil, Bool.not_true, Bool.not_false, if_true, Bool.true_eq_false, Bool.false_eq_true, if_false, q7.1, q8.1]
    rw [List.map_cons, forL, ea]
    dsimp only
    rw [e]
    exact e2
theorem far_sum {w : Int} {n : Nat} {s : Stp} {A : Mat} (ok : s.Okw w) (hn : (n : Int) = w) (hA : ∀ i, SqR n (A i)) (hS : ∀ ps1 ps2, s.ps = ps1 ++ ps2 → SqR n (rowP s A ps1)) : F_far_sum [.lst (matD n A), s.d] = .retn (rowD n (rowP s A s.ps)) (.l []) := by
  have t0 := ok.t0
  have t1 := ok.t1
  have hlt := nth_lt hn t0 t1
  have ixr : ixD (.lst (matD n A)) (.int s.t) = some (.lst (rowD n (A s.t.toNat))) := at_nat t0 (mat_get hlt)
  obtain ⟨z7, z8, z9, z10, z11, z12, z13, e⟩ := far_parts (x2 := .va (.int s.t)) (x3 := .va (.tup (s.ps.map pairD))) (x4 := .va (.int s.a)) ok hn hA s.ps (A s.t.toNat) .un .un .un .un .un .un .un (fun p hp => hp) hS Pl.un Pl.un Pl.un Pl.un Pl.un Pl.un Pl.un
  have sq : ∀ (b : ASs) (t : List Sl), seqA 4 b s.d t = b [.int s.t, .tup (s.ps.map pairD), .int s.a, .int s.o] t := fun _ _ => rfl
  show outF false (g_far_sum [.va (.lst (matD n A)), .va s.d, .un, .un, .un, .un, .un, .un, .un, .un, .un, .un, .un, .un]) = _
  simp only [g_far_sum, ev_name, ev_c, ev_op2, ev_op1, ev_toR1, ev_toRL1, ev_nil, ev_cons, ev_opn, ev_opnN, ev_tup, ev_lst, ev_lstN, ev_new, ev_tst, ev_notT, ev_andT, ev_orT, ev_notF, ev_andF, ev_orF, ev_ifF, ev_yes, ev_iter, ev_rng1, ev_rng2, ev_rngW, ev_noP, ev_sl, ev_part, ev_next, ev_noG, ev_seq, ev_drop, ev_ret, ev_retN, ev_if, ev_asg, ev_setA, ev_nilA, ev_consA, ev_seqT, ev_seqL, ev_setN, ev_ok, ev_ioV, ev_ioU, ev_ioW, ev_owV, ev_owU, ev_own, ev_put, ev_ixOwn, ev_lenOwn, ev_setIx, ev_comp, ev_compL0, ev_compL1, ev_okC, ev_wipe1, ev_wipe0, ev_rest1, ev_rest0, ev_call, ev_callN, ev_ofr, ev_ofn, ev_ofnN, ev_mut, ev_mdl, ev_mdi, ev_io, ev_addI, ev_subI, ev_negI, ev_cmpI, ev_eqI, ev_neI, ev_eqS, ev_neS, ev_intI, ev_intB, ev_absI, ev_lenL, ev_lenT, ev_ixL, ev_ixT, ev_at0, ev_at1, ev_at2, ev_i30, ev_i31, ev_i32, ev_pk1, ev_pk2, ev_pk3, ev_pk4, ev_pkw1, ev_pkw2, ev_pkv2, ev_isI, ev_isN, ev_isB, ev_inI, ev_inN, ev_inB, ev_listT, ev_listL, ev_tupT, ev_tupL, ev_fld, ev_insAt, ev_fldOwn, ev_fldG, ev_meth, ev_make, ev_callL, ev_noLI, ev_nilL, ev_nameL, ev_lendL, ev_conL, ev_augIx, ev_putAt, ev_iadd, ev_isub, ev_revT, ev_enum, ev_zip, ev_seqDL, ev_seqDT, ev_nilM, ev_vaM, ev_owM, ev_parM, ev_app, ev_par, ev_par3, R.bind_ok, R.out_ok, Option.bind_some, List.getElem?_cons_succ, List.getElem?_cons_zero, List.set_cons_succ, List.set_cons_zero, List.length_cons, List.length_nil, Nat.reduceAdd, Nat.reduceEqDiff, List.getD_cons_succ, List.getD_cons_zero, decide_true, decide_false, Bool.and_true, Bool.and_self, and_self, true_and, List.all_cons, List.all_nil, Bool.not_true, Bool.not_false, if_true, Bool.true_eq_false, Bool.false_eq_true, if_false, ev_for, sq, ixr, e]
  rfl
/-! ### the law's own rows -/
theorem law_part_g {M : D → D → Option D} {Fn : List D → FR} {q r z : D} {c d x o a1 b1 : Int} {x0 x1 x2 x3 x4 x5 x6 y9 y10 : Sl} (f0 : ixD q (.int 0) = some (.int c)) (f1 : ixD q (.int 1) = some (.int d)) (m1 : M (.int x) (.int c) = some (.int a1)) (m2 : M (.int d) (.int o) = some (.int b1)) (el : Fn [z, .tup [.int a1, .int b1]] = .ret r (.l [])) :
    callF Fn 2 (pickG 2 0 [] [0, 1]) (consF (nameF 11) (consF (tupF (consF (op2F M (nameF 8) (op2F ixD (nameF 12) (cF (.int 0)))) (consF (op2F M (op2F ixD (nameF 12) (cF (.int 1))) (nameF 7)) nilF))) nilF)) nilF [x0, x1, x2, x3, x4, x5, x6, .va (.int o), .va (.int x), y9, y10, .va z, .va q] = .ok r [x0, x1, x2, x3, x4, x5, x6, .va (.int o), .va (.int x), y9, y10, .va z, .va q] := by
  simp only [ev_name, ev_c, ev_op2, ev_op1, ev_toR1, ev_toRL1, ev_nil, ev_cons, ev_opn, ev_opnN, ev_tup, ev_lst, ev_lstN, ev_new, ev_tst, ev_notT, ev_andT, ev_orT, ev_notF, ev_andF, ev_orF, ev_ifF, ev_yes, ev_iter, ev_rng1, ev_rng2, ev_rngW, ev_noP, ev_sl, ev_part, ev_next, ev_noG, ev_seq, ev_drop, ev_ret, ev_retN, ev_if, ev_asg, ev_setA, ev_nilA, ev_consA, ev_seqT, ev_seqL, ev_setN, ev_ok, ev_ioV, ev_ioU, ev_ioW, ev_owV, ev_owU, ev_own, ev_put, ev_ixOwn, ev_lenOwn, ev_setIx, ev_comp, ev_compL0, ev_compL1, ev_okC, ev_wipe1, ev_wipe0, ev_rest1, ev_rest0, ev_call, ev_callN, ev_ofr, ev_ofn, ev_ofnN, ev_mut, ev_mdl, ev_mdi, ev_io, ev_addI, ev_subI, ev_negI, ev_cmpI, ev_eqI, ev_neI, ev_eqS, ev_neS, ev_intI, ev_intB, ev_absI, ev_lenL, ev_lenT, ev_ixL, ev_ixT, ev_at0, ev_at1, ev_at2, ev_i30, ev_i31, ev_i32, ev_pk1, ev_pk2, ev_pk3, ev_pk4, ev_pkw1, ev_pkw2, ev_pkv2, ev_isI, ev_isN, ev_isB, ev_inI, ev_inN, ev_inB, ev_listT, ev_listL, ev_tupT, ev_tupL, ev_fld, ev_insAt, ev_fldOwn, ev_fldG, ev_meth, ev_make, ev_callL, ev_noLI, ev_nilL, ev_nameL, ev_lendL, ev_conL, ev_augIx, ev_putAt, ev_iadd, ev_isub, ev_revT, ev_enum, ev_zip, ev_seqDL, ev_seqDT, ev_nilM, ev_vaM, ev_owM, ev_parM, ev_app, ev_par, ev_par3, R.bind_ok, R.out_ok, Option.bind_some, List.getElem?_cons_succ, List.getElem?_cons_zero, List.set_cons_succ, List.set_cons_zero, List.length_cons, List.length_nil, Nat.reduceAdd, Nat.reduceEqDiff, List.getD_cons_succ, List.getD_cons_zero, decide_true, decide_false, Bool.and_true, Bool.and_self, and_self, true_and, List.all_cons, List.all_nil, Bool.not_true, Bool.not_false, if_true, Bool.true_eq_false, Bool.false_eq_true, if_false, f0, f1, m1, m2, sz2, el]
theorem law_set_g {K : F (List D)} {L : List D} {t : Int} {k : Nat} {ds : List D} {x0 x1 x2 x5 x6 x7 x8 x9 x10 x11 x12 : Sl} (c : K [x0, x1, x2, .ow (.l L), .va (.int t), x5, x6, x7, x8, x9, x10, x11, x12] = .ok ds [x0, x1, x2, .ow (.l L), .va (.int t), x5, x6, x7, x8, x9, x10, x11, x12]) (i3 : ixN L.length t = some k) :
    setIxG 3 (nameF 4) (lstF' K) [x0, x1, x2, .ow (.l L), .va (.int t), x5, x6, x7, x8, x9, x10, x11, x12] = .nx [x0, x1, x2, .ow (.l (L.set k (.lst ds))), .va (.int t), x5, x6, x7, x8, x9, x10, x11, x12] := by
  simp only [ev_name, ev_c, ev_op2, ev_op1, ev_toR1, ev_toRL1, ev_nil, ev_cons, ev_opn, ev_opnN, ev_tup, ev_lst, ev_lstN, ev_new, ev_tst, ev_notT, ev_andT, ev_orT, ev_notF, ev_andF, ev_orF, ev_ifF, ev_yes, ev_iter, ev_rng1, ev_rng2, ev_rngW, ev_noP, ev_sl, ev_part, ev_next, ev_noG, ev_seq, ev_drop, ev_ret, ev_retN, ev_if, ev_asg, ev_setA, ev_nilA, ev_consA, ev_seqT, ev_seqL, ev_setN, ev_ok, ev_ioV, ev_ioU, ev_ioW, ev_owV, ev_owU, ev_own, ev_put, ev_ixOwn, ev_lenOwn, ev_setIx, ev_okC, ev_wipe1, ev_wipe0, ev_rest1, ev_rest0, ev_call, ev_callN, ev_ofr, ev_ofn, ev_ofnN, ev_mut, ev_mdl, ev_mdi, ev_io, ev_addI, ev_subI, ev_negI, ev_cmpI, ev_eqI, ev_neI, ev_eqS, ev_neS, ev_intI, ev_intB, ev_absI, ev_lenL, ev_lenT, ev_ixL, ev_ixT, ev_at0, ev_at1, ev_at2, ev_i30, ev_i31, ev_i32, ev_pk1, ev_pk2, ev_pk3, ev_pk4, ev_pkw1, ev_pkw2, ev_pkv2, ev_isI, ev_isN, ev_isB, ev_inI, ev_inN, ev_inB, ev_listT, ev_listL, ev_tupT, ev_tupL, ev_insAt, ev_fldOwn, ev_fldG, ev_callL, ev_noLI, ev_nilL, ev_nameL, ev_lendL, ev_conL, ev_augIx, ev_putAt, ev_iadd, ev_isub, ev_revT, ev_enum, ev_zip, ev_seqDL, ev_seqDT, ev_nilM, ev_vaM, ev_owM, ev_parM, ev_app, ev_par, ev_par3, R.bind_ok, R.out_ok, Option.bind_some, List.getElem?_cons_succ, List.getElem?_cons_zero, List.set_cons_succ, List.set_cons_zero, List.length_cons, List.length_nil, Nat.reduceAdd, Nat.reduceEqDiff, List.getD_cons_succ, List.getD_cons_zero, decide_true, decide_false, Bool.and_true, Bool.and_self, and_self, true_and, List.all_cons, List.all_nil, Bool.not_true, Bool.not_false, if_true, Bool.true_eq_false, Bool.false_eq_true, if_false, c, i3]
theorem law_part {w : Int} {n : Nat} {s : Stp} {A : Mat} {f : Nat → Rat} {p : Int × Int} {x0 x1 x5 x6 y2 y8 y9 y10 y11 y12 : Sl} (ok : s.Okw w) (hn : (n : Int) = w) (w6 : w ≤ 6) (hp : p ∈ s.ps) (hf : SqR n f) (hA : SqR n (A p.1.toNat)) (q11 : Pl y11) (q12 : Pl y12) :
    g__law_far_b1 [x0, x1, .va (.int p.1), .ow (.l (matD n (updM A s.t.toNat f))), .va (.int s.t), x5, x6, .va (.int s.o), .va (.int p.2), y9, y10, y11, y12] = .nx [x0, x1, .va (.int p.1), .ow (.l (matD n (updM A s.t.toNat fun j => f j + (p.2 : Rat) / (s.o : Rat) * A p.1.toNat j))), .va (.int s.t), x5, x6, .va (.int s.o), .va (.int p.2), y9, y10, y11, y12] := by
  obtain ⟨p1, p2, p3, p4, p5, p6⟩ := ok.p.pr p hp
  have t0 := ok.t0
  have t1 := ok.t1
  have o0 := ok.o0
  have o1 := ok.o1
  have hlt := nth_lt hn t0 t1
  have hlp := nth_lt hn p1 p2
  have so : Sz 4 s.o := ⟨by show -16 ≤ s.o; omega, by show s.o ≤ 16; omega⟩
  have sx := Sz9 p4 p5
  have g1 : (updM A s.t.toNat f) s.t.toNat = f := by funext j; unfold updM; rw [if_pos rfl]
  have g2 : (updM A s.t.toNat f) p.1.toNat = A p.1.toNat := by funext j; unfold updM; rw [if_neg (by omega)]
  have i1 : atD (matD n (updM A s.t.toNat f)) s.t = some (.lst (rowD n f)) := at_nat t0 (by rw [mat_get hlt, g1])
  have i2 : atD (matD n (updM A s.t.toNat f)) p.1 = some (.lst (rowD n (A p.1.toNat))) := at_nat p1 (by rw [mat_get hlp, g2])
  have i3 : ixN (matD n (updM A s.t.toNat f)).length s.t = some s.t.toNat := ev_ixN t0 (by rw [mat_len]; omega)
  have eo : (s.o : Int) = ((s.o.toNat : Nat) : Int) := by omega
  obtain ⟨K, hK⟩ : ∃ K, K = compN (zipF (ixOwnF 3 (nameF 4)) (ixOwnF 3 (nameF 2))) [11, 12] (seqA 2 (consA (setA 11) (consA (setA 12) nilA))) yesT (callF F__law_sum 2 (pickG 2 0 [] [0, 1]) (consF (nameF 11) (consF (tupF (consF (op2F mulD (nameF 8) (op2F ixD (nameF 12) (cF (.int 0)))) (consF (op2F mulD (op2F ixD (nameF 12) (cF (.int 1))) (nameF 7)) nilF))) nilF)) nilF) := ⟨_, rfl⟩
  have c : K [x0, x1, .va (.int p.1), .ow (.l (matD n (updM A s.t.toNat f))), .va (.int s.t), x5, x6, .va (.int s.o), .va (.int p.2), y9, y10, y11, y12] =
      .ok ((List.range n).map fun j => fr (f j + (p.2 : Rat) / (s.o : Rat) * A p.1.toNat j)) [x0, x1, .va (.int p.1), .ow (.l (matD n (updM A s.t.toNat f))), .va (.int s.t), x5, x6, .va (.int s.o), .va (.int p.2), y9, y10, y11, y12] := by
    rw [hK]
    refine compN_src (vs := [11, 12]) (fun j : Nat => .tup [fr (f j), fr (A p.1.toNat j)]) (fun j : Nat => fr (f j + (p.2 : Rat) / (s.o : Rat) * A p.1.toNat j)) (s1 := [x0, x1, .va (.int p.1), .ow (.l (matD n (updM A s.t.toNat f))), .va (.int s.t), x5, x6, .va (.int s.o), .va (.int p.2), y9, y10, y11, y12]) (xs := List.range n) ?_ ?_ ?_ (fun s' => ∃ y z, s' = [x0, x1, .va (.int p.1), .ow (.l (matD n (updM A s.t.toNat f))), .va (.int s.t), x5, x6, .va (.int s.o), .va (.int p.2), y9, y10, y, z]) ⟨_, _, rfl⟩ (fun s' ⟨y, z, e⟩ => by rw [e]; rfl) ?_
    · simp only [ev_name, ev_c, ev_op2, ev_op1, ev_toR1, ev_toRL1, ev_nil, ev_cons, ev_opn, ev_opnN, ev_tup, ev_lst, ev_lstN, ev_new, ev_tst, ev_notT, ev_andT, ev_orT, ev_notF, ev_andF, ev_orF, ev_ifF, ev_yes, ev_iter, ev_rng1, ev_rng2, ev_rngW, ev_noP, ev_sl, ev_part, ev_next, ev_noG, ev_seq, ev_drop, ev_ret, ev_retN, ev_if, ev_asg, ev_setA, ev_nilA, ev_consA, ev_seqT, ev_seqL, ev_setN, ev_ok, ev_ioV, ev_ioU, ev_ioW, ev_owV, ev_owU, ev_own, ev_put, ev_ixOwn, ev_lenOwn, ev_setIx, ev_okC, ev_wipe1, ev_wipe0, ev_rest1, ev_rest0, ev_call, ev_callN, ev_ofr, ev_ofn, ev_ofnN, ev_mut, ev_mdl, ev_mdi, ev_io, ev_addI, ev_subI, ev_negI, ev_cmpI, ev_eqI, ev_neI, ev_eqS, ev_neS, ev_intI, ev_intB, ev_absI, ev_lenL, ev_lenT, ev_ixL, ev_ixT, ev_at0, ev_at1, ev_at2, ev_i30, ev_i31, ev_i32, ev_pk1, ev_pk2, ev_pk3, ev_pk4, ev_pkw1, ev_pkw2, ev_pkv2, ev_isI, ev_isN, ev_isB, ev_inI, ev_inN, ev_inB, ev_listT, ev_listL, ev_tupT, ev_tupL, ev_insAt, ev_fldOwn, ev_fldG, ev_callL, ev_noLI, ev_nilL, ev_nameL, ev_lendL, ev_conL, ev_augIx, ev_putAt, ev_iadd, ev_isub, ev_revT, ev_enum, ev_zip, ev_seqDL, ev_seqDT, ev_nilM, ev_vaM, ev_owM, ev_parM, ev_app, ev_par, ev_par3, R.bind_ok, R.out_ok, Option.bind_some, List.getElem?_cons_succ, List.getElem?_cons_zero, List.set_cons_succ, List.set_cons_zero, List.length_cons, List.length_nil, Nat.reduceAdd, Nat.reduceEqDiff, List.getD_cons_succ, List.getD_cons_zero, decide_true, decide_false, Bool.and_true, Bool.and_self, and_self, true_and, List.all_cons, List.all_nil, Bool.not_true, Bool.not_false, if_true, Bool.true_eq_false, Bool.false_eq_true, if_false, i1, i2]
      unfold rowD
      rw [zipD_map]
      have hz : ∀ m : List Nat, m.zip m = m.map fun j => (j, j) := fun m => by
        induction m with
        | nil => rfl
        | cons a m ih => rw [List.zip_cons_cons, ih]; rfl
      rw [hz, List.map_map]
      rfl
    · rw [List.length_range, sizeLine_eq]
      omega
    · simp only [List.all_cons, List.all_nil, Bool.and_true, ev_okC, List.getElem?_cons_succ, List.getElem?_cons_zero, q11.2, q12.2, Bool.not_false, Bool.and_self]
    · rintro j hj s' ⟨y, z, rfl⟩
      have hj := List.mem_range.mp hj
      have hq := hA j hj
      have m1 := mulW sx hq.1 (by decide)
      have m2 := mulW hq.2 so (by decide)
      have ed : ((A p.1.toNat j).den : Int) * s.o = (((A p.1.toNat j).den * s.o.toNat : Nat) : Int) := by rw [Int.natCast_mul, ← eo]
      have sd : Sz 1000 (((A p.1.toNat j).den * s.o.toNat : Nat) : Int) := by rw [← ed]; exact (hq.2.mul so).mono (by decide)
      have el := law_add (p := f j) (c := p.2 * (A p.1.toNat j).num) (d := (A p.1.toNat j).den * s.o.toNat) (hf j hj) (Nat.mul_pos (den_pos _) (by omega)) ((sx.mul hq.1).mono (by decide)) sd
      rw [cf_step o0 rfl] at el
      refine ⟨_, _, _, rfl, rfl, ?_, .va (fr (f j)), .va (fr (A p.1.toNat j)), rfl⟩
      have f0 : ixD (fr (A p.1.toNat j)) (.int 0) = some (.int (A p.1.toNat j).num) := rfl
      have f1 : ixD (fr (A p.1.toNat j)) (.int 1) = some (.int ((A p.1.toNat j).den : Int)) := rfl
      exact law_part_g f0 f1 m1 (ed ▸ m2) el
  have es := mat_set (n := n) (t := s.t.toNat) (A := updM A s.t.toNat f) (f := fun j => f j + (p.2 : Rat) / (s.o : Rat) * A p.1.toNat j)
  rw [upd_upd] at es
  have es' : (matD n (updM A s.t.toNat f)).set s.t.toNat (.lst ((List.range n).map fun j => fr (f j + (p.2 : Rat) / (s.o : Rat) * A p.1.toNat j))) = matD n (updM A s.t.toNat fun j => f j + (p.2 : Rat) / (s.o : Rat) * A p.1.toNat j) := es
  rw [← es', ← law_set_g c i3, hK]
  rfl
theorem law_parts2 {w : Int} {n : Nat} {s : Stp} {A : Mat} {x0 x1 x5 x6 y9 y10 y11 y12 : Sl} (ok : s.Okw w) (hn : (n : Int) = w) (w6 : w ≤ 6) (hA : ∀ i, SqR n (A i)) (q11 : Pl y11) (q12 : Pl y12) : ∀ (ps : List (Int × Int)) (f : Nat → Rat) (y2 y8 : Sl), (∀ p ∈ ps, p ∈ s.ps) → (∀ ps1 ps2, ps = ps1 ++ ps2 → SqR n fun j => ps1.foldl (fun x p => x + cf s p * A p.1.toNat j) (f j)) → Pl y2 → Pl y8 →
    ∃ z2 z8, forL (seqA 2 (consA (setA 2) (consA (setA 8) nilA))) g__law_far_b1 (ps.map pairD) [x0, x1, y2, .ow (.l (matD n (updM A s.t.toNat f))), .va (.int s.t), x5, x6, .va (.int s.o), y8, y9, y10, y11, y12] = .nx [x0, x1, z2, .ow (.l (matD n (updM A s.t.toNat fun j => ps.foldl (fun x p => x + cf s p * A p.1.toNat j) (f j)))), .va (.int s.t), x5, x6, .va (.int s.o), z8, y9, y10, y11, y12] ∧ Pl z2 ∧ Pl z8
  | [], f, y2, y8, _, _, q2, q8 => ⟨y2, y8, rfl, q2, q8⟩
  | p :: ps, f, y2, y8, hm, hS, q2, q8 => by
    have hp := hm p List.mem_cons_self
    have e := law_part (x0 := x0) (x1 := x1) (x5 := x5) (x6 := x6) (y2 := y2) (y8 := y8) (y9 := y9) (y10 := y10) (f := f) ok hn w6 hp (hS [] _ rfl) (hA _) q11 q12
    obtain ⟨z2, z8, e2, r2, r8⟩ := law_parts2 (x0 := x0) (x1 := x1) (x5 := x5) (x6 := x6) (y9 := y9) (y10 := y10) ok hn w6 hA q11 q12 ps (fun j => f j + (p.2 : Rat) / (s.o : Rat) * A p.1.toNat j) (.va (.int p.1)) (.va (.int p.2)) (fun q hq => hm q (List.mem_cons_of_mem _ hq)) (fun ps1 ps2 e => hS (p :: ps1) ps2 (by rw [e]; rfl)) Pl.va Pl.va
    refine ⟨z2, z8, ?_, r2, r8⟩
    have ea : seqA 2 (consA (setA 2) (consA (setA 8) nilA)) (pairD p) [x0, x1, y2, .ow (.l (matD n (updM A s.t.toNat f))), .va (.int s.t), x5, x6, .va (.int s.o), y8, y9, y10, y11, y12] = some [x0, x1, .va (.int p.1), .ow (.l (matD n (updM A s.t.toNat f))), .va (.int s.t), x5, x6, .va (.int s.o), .va (.int p.2), y9, y10, y11, y12] := by
      unfold pairD
      simp only [ev_name, ev_c, ev_op2, ev_op1, ev_toR1, ev_toRL1, ev_nil, ev_cons, ev_opn, ev_opnN, ev_tup, ev_lst, ev_lstN, ev_new, ev_tst, ev_notT, ev_andT, ev_orT, ev_notF, ev_andF, ev_orF, ev_ifF, ev_yes, ev_iter, ev_rng1, ev_rng2, ev_rngW, ev_noP, ev_sl, ev_part, ev_next, ev_noG, ev_seq, ev_drop, ev_ret, ev_retN, ev_if, ev_asg, ev_setA, ev_nilA, ev_consA, ev_seqT, ev_seqL, ev_setN, ev_ok, ev_ioV, ev_ioU, ev_ioW, ev_owV, ev_owU, ev_own, ev_put, ev_ixOwn, ev_lenOwn, ev_setIx, ev_comp, ev_compL0, ev_compL1, ev_okC, ev_wipe1, ev_wipe0, ev_rest1, ev_rest0, ev_call, ev_callN, ev_ofr, ev_ofn, ev_ofnN, ev_mut, ev_mdl, ev_mdi, ev_io, ev_addI, ev_subI, ev_negI, ev_cmpI, ev_eqI, ev_neI, ev_eqS, ev_neS, ev_intI, ev_intB, ev_absI, ev_lenL, ev_lenT, ev_ixL, ev_ixT, ev_at0, ev_at1, ev_at2, ev_i30, ev_i31, ev_i32, ev_pk1, ev_pk2, ev_pk3, ev_pk4, ev_pkw1, ev_pkw2, ev_pkv2, ev_isI, ev_isN, ev_isB, ev_inI, ev_inN, ev_inB, ev_listT, ev_listL, ev_tupT, ev_tupL, ev_fld, ev_insAt, ev_fldOwn, ev_fldG, ev_meth, ev_make, ev_callL, ev_noLI, ev_nilL, ev_nameL, ev_lendL, ev_conL, ev_augIx, ev_putAt, ev_iadd, ev_isub, ev_revT, ev_enum, ev_zip, ev_seqDL, ev_seqDT, ev_nilM, ev_vaM, ev_owM, ev_parM, ev_app, ev_par, ev_par3, R.bind_ok, R.out_ok, Option.bind_some, List.getElem?_cons_succ, List.getElem?_cons_zero, List.set_cons_succ, List.set_cons_zero, List.length_cons, List.length_nil, Nat.reduceAdd, Nat.reduceEqDiff, List.getD_cons_succ, List.getD_cons_zero, decide_true, decide_false, Bool.and_true, Bool.and_self, and_self, true_and, List.all_cons, List.all_nil, Bool.not_true, Bool.not_false, if_true, Bool.true_eq_false, Bool.false_eq_true, if_false, q2.1, q8.1]
    rw [List.map_cons, forL, ea]
    dsimp only
    rw [e]
    exact e2
end Fx

set_option Elab.async false
set_option linter.all false
set_option maxRecDepth 100000
namespace Fx
open PySem L2 PyProof.Rows
set_option maxHeartbeats 1000000
/-! ### the sizes of rows -/
def OvM (W m : Nat) (A : Mat) : Prop := ∀ i j, Ov W m (A i j)
theorem ov_sq {W m : Nat} {q : Rat} (h : Ov W m q) (hW : 0 < W) (hW2 : (W : Int) ≤ 2 ^ 400) (hm : m ≤ 400) : Sq q := by
  obtain ⟨h1, h2, h3⟩ := h.num hW
  exact ⟨Sz.mono ⟨h1, h2⟩ hm, by have : (0 : Int) < 2 ^ 400 := Int.pow_pos (by decide); omega, by omega⟩
theorem ov_cf {w : Int} {s : Stp} {p : Int × Int} (ok : s.Okw w) (hp : p ∈ s.ps) : Ov s.o.toNat 4 (cf s p) := by
  obtain ⟨p1, p2, p3, p4, p5, p6⟩ := ok.p.pr p hp
  have o0 := ok.o0
  refine ⟨p.2, ?_, by show -16 ≤ p.2; omega, by show p.2 ≤ 16; omega⟩
  unfold cf
  have eo : (s.o : Int) = ((s.o.toNat : Nat) : Int) := by omega
  conv => lhs; rw [eo, Rat.intCast_natCast]
theorem ov_fold {w : Int} {s : Stp} {A : Mat} {W m : Nat} {j : Nat} (ok : s.Okw w) (hW : 0 < W) (hA : OvM W m A) : ∀ (ps : List (Int × Int)) (x : Rat) (k : Nat), (∀ p ∈ ps, p ∈ s.ps) → m + 4 ≤ k → Ov (W * s.o.toNat) k x → Ov (W * s.o.toNat) (k + ps.length) (ps.foldl (fun x p => x + cf s p * A p.1.toNat j) x)
  | [], x, k, _, _, h => h
  | p :: ps, x, k, hm, hk, h => by
    have o0 := ok.o0
    have h1 := (ov_cf ok (hm p List.mem_cons_self)).mul (hA p.1.toNat j) (by omega) hW
    rw [Nat.mul_comm] at h1
    have h2 := h.add (h1.mono (show 4 + m ≤ k by omega))
    have := ov_fold (j := j) ok hW hA ps _ (k + 1) (fun q hq => hm q (List.mem_cons_of_mem _ hq)) (by omega) h2
    rw [List.length_cons, show k + (ps.length + 1) = k + 1 + ps.length by omega]
    exact this
theorem ov_row {w : Int} {s : Stp} {A : Mat} {W m : Nat} (ok : s.Okw w) (w6 : w ≤ 6) (hW : 0 < W) (hA : OvM W m A) (ps1 ps2 : List (Int × Int)) (e : s.ps = ps1 ++ ps2) (j : Nat) : Ov (W * s.o.toNat) (m + 9) (rowP s A ps1 j) := by
  have o0 := ok.o0
  have o1 := ok.o1
  have hlen := ok.len
  rw [e, List.length_append] at hlen
  have h0 := (hA s.t.toNat j).scale hW (V := s.o.toNat) (k := 4) (by omega) (by show _ ≤ (16 : Int); omega)
  have := ov_fold (j := j) ok hW hA ps1 (A s.t.toNat j) (m + 4) (fun p hp => by rw [e]; exact List.mem_append_left _ hp) (Nat.le_refl _) h0
  exact this.mono (by omega)
theorem ov_rop {w : Int} {s : Stp} {A : Mat} {W m : Nat} (ok : s.Okw w) (w6 : w ≤ 6) (hW : 0 < W) (hA : OvM W m A) : OvM (W * s.o.toNat) (m + 9) (rop s A) := fun i j => by
  have o0 := ok.o0
  have o1 := ok.o1
  unfold rop
  split
  · exact ov_row ok w6 hW hA s.ps [] (by rw [List.append_nil]) j
  · exact ((hA i j).scale hW (V := s.o.toNat) (k := 4) (by omega) (by show _ ≤ (16 : Int); omega)).mono (by omega)
theorem ov_id : OvM 1 0 idM := fun i j => by
  unfold idM
  split
  · exact ⟨1, by grind, by decide, by decide⟩
  · exact ⟨0, by grind, by decide, by decide⟩
theorem ov_rops {w : Int} (w6 : w ≤ 6) : ∀ (st : List Stp) (A : Mat) (W m : Nat), (∀ s ∈ st, s.Okw w) → 0 < W → OvM W m A → ∃ V, 0 < V ∧ V ≤ W * 16 ^ st.length ∧ OvM V (m + 9 * st.length) (rops st A)
  | [], A, W, m, _, hW, h => ⟨W, hW, by rw [List.length_nil, Nat.pow_zero, Nat.mul_one]; exact Nat.le_refl _, h⟩
  | s :: st, A, W, m, ok, hW, h => by
    have os := ok s List.mem_cons_self
    have o0 := os.o0
    have o1 := os.o1
    obtain ⟨V, v0, v1, v2⟩ := ov_rops w6 st (rop s A) (W * s.o.toNat) (m + 9) (fun t ht => ok t (List.mem_cons_of_mem _ ht)) (Nat.mul_pos hW (by omega)) (ov_rop os w6 hW h)
    refine ⟨V, v0, Nat.le_trans v1 ?_, ?_⟩
    · rw [List.length_cons, Nat.pow_succ, Nat.mul_comm (16 ^ st.length) 16, ← Nat.mul_assoc]
      exact Nat.mul_le_mul_right _ (Nat.mul_le_mul_left _ (by omega))
    · rw [List.length_cons, show m + 9 * (st.length + 1) = m + 9 + 9 * st.length by omega]
      exact v2
theorem pow16 {k : Nat} (h : k ≤ 20) : ((16 ^ k : Nat) : Int) ≤ 2 ^ 80 := by
  have : 16 ^ k ≤ 16 ^ 20 := Nat.pow_le_pow_right (by decide) h
  have e : (16 ^ 20 : Nat) = 2 ^ 80 := by decide
  have e2 : ((2 ^ 80 : Nat) : Int) = 2 ^ 80 := pow_cast 80
  omega
theorem far_ov {w : Int} {st : List Stp} (w6 : w ≤ 6) (ok : ∀ s ∈ st, s.Okw w) (hl : st.length ≤ 12) : ∃ V : Nat, 0 < V ∧ (V : Int) ≤ 2 ^ 80 ∧ OvM V 108 (rops st idM) := by
  obtain ⟨V, v0, v1, v2⟩ := ov_rops w6 st idM 1 0 ok (by decide) ov_id
  refine ⟨V, v0, ?_, fun i j => (v2 i j).mono (by omega)⟩
  have := pow16 (k := st.length) (by omega)
  rw [Nat.one_mul] at v1
  omega
theorem sz_le {V : Nat} (h : (V : Int) ≤ 2 ^ 80) : (V : Int) ≤ 2 ^ 400 := Int.le_trans h (pw (by decide))
/-! ### the rows of a lift -/
theorem noLL_row {f : Nat → Rat} : ∀ l : List Nat, noLL (l.map fun j => fr (f j)) = true
  | [] => rfl
  | j :: l => by
    rw [List.map_cons]
    unfold noLL
    rw [noLL_row l, Bool.and_true]
    rfl
theorem far_loop {w : Int} {n : Nat} {x0 x3 x4 x5 : Sl} (hn : (n : Int) = w) (w6 : w ≤ 6) : ∀ (st : List Stp) (A : Mat) (W m : Nat) (y2 : Sl), (∀ s ∈ st, s.Okw w) → 0 < W → W * 16 ^ st.length ≤ 2 ^ 400 → m + 9 * st.length ≤ 400 → OvM W m A → Pl y2 →
    ∃ z2, forL (setA 2) g_Lift_far_b1 (st.map Stp.d) [x0, .ow (.l (matD n A)), y2, x3, x4, x5] = .nx [x0, .ow (.l (matD n (rops st A))), z2, x3, x4, x5]
  | [], A, W, m, y2, _, _, _, _, _, _ => ⟨y2, rfl⟩
  | s :: st, A, W, m, y2, ok, hW, hB, hm, h, q2 => by
    have os := ok s List.mem_cons_self
    have t0 := os.t0
    have t1 := os.t1
    have o0 := os.o0
    have o1 := os.o1
    rw [List.length_cons] at hm
    have hB2 : W * s.o.toNat * 16 ^ st.length ≤ 2 ^ 400 := by
      refine Nat.le_trans ?_ hB
      rw [List.length_cons, Nat.pow_succ, Nat.mul_comm (16 ^ st.length) 16, ← Nat.mul_assoc]
      exact Nat.mul_le_mul_right _ (Nat.mul_le_mul_left _ (by omega))
    have hWo : ((W * s.o.toNat : Nat) : Int) ≤ 2 ^ 400 := by
      have h1 : W * s.o.toNat * 1 ≤ W * s.o.toNat * 16 ^ st.length := Nat.mul_le_mul_left _ (Nat.pow_pos (by decide))
      have h2 := pow_cast 400
      omega
    have hWW : (W : Int) ≤ 2 ^ 400 := by
      have h1 : W * 1 ≤ W * s.o.toNat := Nat.mul_le_mul_left _ (by omega)
      omega
    have hWp : 0 < W * s.o.toNat := Nat.mul_pos hW (by omega)
    have fs := far_sum (n := n) os hn (fun i j _ => ov_sq (h i j) hW hWW (by omega)) (fun ps1 ps2 e j _ => ov_sq (ov_row os w6 hW h ps1 ps2 e j) hWp hWo (by omega))
    obtain ⟨z2, e⟩ := far_loop (x0 := x0) (x3 := x3) (x4 := x4) (x5 := x5) hn w6 st (rop s A) (W * s.o.toNat) (m + 9) (.va s.d) (fun t ht => ok t (List.mem_cons_of_mem _ ht)) hWp hB2 (by omega) (ov_rop os w6 hW h) Pl.va
    have i0 : ixD s.d (.int 0) = some (.int s.t) := rfl
    have i1 : ixN (matD n A).length s.t = some s.t.toNat := ev_ixN t0 (by rw [mat_len]; omega)
    have nl : noLL (rowD n (rowP s A s.ps)) = true := noLL_row _
    have ms := mat_set (n := n) (t := s.t.toNat) (A := A) (f := rowP s A s.ps)
    rw [← rop_upd] at ms
    have ea : setA 2 s.d [x0, .ow (.l (matD n A)), y2, x3, x4, x5] = some [x0, .ow (.l (matD n A)), .va s.d, x3, x4, x5] := by simp only [ev_name, ev_c, ev_op2, ev_op1, ev_toR1, ev_toRL1, ev_nil, ev_cons, ev_opn, ev_opnN, ev_tup, ev_lst, ev_lstN, ev_new, ev_tst, ev_notT, ev_andT, ev_orT, ev_notF, ev_andF, ev_orF, ev_ifF, ev_yes, ev_iter, ev_rng1, ev_rng2, ev_rngW, ev_noP, ev_sl, ev_part, ev_next, ev_noG, ev_seq, ev_drop, ev_ret, ev_retN, ev_if, ev_asg, ev_setA, ev_nilA, ev_consA, ev_seqT, ev_seqL, ev_setN, ev_ok, ev_ioV, ev_ioU, ev_ioW, ev_owV, ev_owU, ev_own, ev_put, ev_ixOwn, ev_lenOwn, ev_setIx, ev_comp, ev_compL0, ev_compL1, ev_okC, ev_wipe1, ev_wipe0, ev_rest1, ev_rest0, ev_call, ev_callN, ev_ofr, ev_ofn, ev_ofnN, ev_mut, ev_mdl, ev_mdi, ev_io, ev_addI, ev_subI, ev_negI, ev_cmpI, ev_eqI, ev_neI, ev_eqS, ev_neS, ev_intI, ev_intB, ev_absI, ev_lenL, ev_lenT, ev_ixL, ev_ixT, ev_at0, ev_at1, ev_at2, ev_i30, ev_i31, ev_i32, ev_pk1, ev_pk2, ev_pk3, ev_pk4, ev_pkw1, ev_pkw2, ev_pkv2, ev_isI, ev_isN, ev_isB, ev_inI, ev_inN, ev_inB, ev_listT, ev_listL, ev_tupT, ev_tupL, ev_fld, ev_insAt, ev_fldOwn, ev_fldG, ev_meth, ev_make, ev_callL, ev_noLI, ev_nilL, ev_nameL, ev_lendL, ev_conL, ev_augIx, ev_putAt, ev_iadd, ev_isub, ev_revT, ev_enum, ev_zip, ev_seqDL, ev_seqDT, ev_nilM, ev_vaM, ev_owM, ev_parM, ev_app, ev_par, ev_par3, R.bind_ok, R.out_ok, Option.bind_some, List.getElem?_cons_succ, List.getElem?_cons_zero, List.set_cons_succ, List.set_cons_zero, List.length_cons, List.length_nil, Nat.reduceAdd, Nat.reduceEqDiff, List.getD_cons_succ, List.getD_cons_zero, decide_true, decide_false, Bool.and_true, Bool.and_self, and_self, true_and, List.all_cons, List.all_nil, Bool.not_true, Bool.not_false, if_true, Bool.true_eq_false, Bool.false_eq_true, if_false, q2.1]
    have eb : g_Lift_far_b1 [x0, .ow (.l (matD n A)), .va s.d, x3, x4, x5] = .nx [x0, .ow (.l (matD n (rop s A))), .va s.d, x3, x4, x5] := by
      simp only [g_Lift_far_b1, ev_name, ev_c, ev_op2, ev_op1, ev_toR1, ev_toRL1, ev_nil, ev_cons, ev_opn, ev_opnN, ev_tup, ev_lst, ev_lstN, ev_new, ev_tst, ev_notT, ev_andT, ev_orT, ev_notF, ev_andF, ev_orF, ev_ifF, ev_yes, ev_iter, ev_rng1, ev_rng2, ev_rngW, ev_noP, ev_sl, ev_part, ev_next, ev_noG, ev_seq, ev_drop, ev_ret, ev_retN, ev_if, ev_asg, ev_setA, ev_nilA, ev_consA, ev_seqT, ev_seqL, ev_setN, ev_ok, ev_ioV, ev_ioU, ev_ioW, ev_owV, ev_owU, ev_own, ev_put, ev_ixOwn, ev_lenOwn, ev_setIx, ev_comp, ev_compL0, ev_compL1, ev_okC, ev_wipe1, ev_wipe0, ev_rest1, ev_rest0, ev_call, ev_callN, ev_ofr, ev_ofn, ev_ofnN, ev_mut, ev_mdl, ev_mdi, ev_io, ev_addI, ev_subI, ev_negI, ev_cmpI, ev_eqI, ev_neI, ev_eqS, ev_neS, ev_intI, ev_intB, ev_absI, ev_lenL, ev_lenT, ev_ixL, ev_ixT, ev_at0, ev_at1, ev_at2, ev_i30, ev_i31, ev_i32, ev_pk1, ev_pk2, ev_pk3, ev_pk4, ev_pkw1, ev_pkw2, ev_pkv2, ev_isI, ev_isN, ev_isB, ev_inI, ev_inN, ev_inB, ev_listT, ev_listL, ev_tupT, ev_tupL, ev_fld, ev_insAt, ev_fldOwn, ev_fldG, ev_meth, ev_make, ev_callL, ev_noLI, ev_nilL, ev_nameL, ev_lendL, ev_conL, ev_augIx, ev_putAt, ev_iadd, ev_isub, ev_revT, ev_enum, ev_zip, ev_seqDL, ev_seqDT, ev_nilM, ev_vaM, ev_owM, ev_parM, ev_app, ev_par, ev_par3, R.bind_ok, R.out_ok, Option.bind_some, List.getElem?_cons_succ, List.getElem?_cons_zero, List.set_cons_succ, List.set_cons_zero, List.length_cons, List.length_nil, Nat.reduceAdd, Nat.reduceEqDiff, List.getD_cons_succ, List.getD_cons_zero, decide_true, decide_false, Bool.and_true, Bool.and_self, and_self, true_and, List.all_cons, List.all_nil, Bool.not_true, Bool.not_false, if_true, Bool.true_eq_false, Bool.false_eq_true, if_false, fs, nl, i0, i1, ms]
    refine ⟨z2, ?_⟩
    rw [List.map_cons, forL, ea]
    dsimp only
    rw [eb]
    exact e
theorem one_nat : (1 : Nat) * 16 ^ 12 ≤ 2 ^ 400 := by decide
theorem lenB {k : Nat} (h : k ≤ 12) : 1 * 16 ^ k ≤ 2 ^ 400 := Nat.le_trans (Nat.mul_le_mul_left _ (Nat.pow_le_pow_right (by decide) h)) one_nat
theorem fr_id (i j : Nat) : fr (idM i j) = .tup [.int (if decide ((j : Int) = (i : Int)) = true then 1 else 0), .int 1] := by
  unfold idM
  by_cases h : j = i
  · subst h
    rw [if_pos rfl, decide_eq_true rfl, if_pos rfl]
    rfl
  · rw [if_neg h, decide_eq_false (by omega), if_neg Bool.false_ne_true]
    rfl
theorem rng_nat {w : Int} {n : Nat} (hn : (n : Int) = w) : rngD 0 w = (List.range n).map fun i : Nat => D.int (i : Int) := by
  unfold rngD
  rw [show (w - 0).toNat = n by omega]
  exact List.map_congr_left fun i _ => by rw [Int.zero_add]
theorem farP {w : Int} {n : Nat} {st : List Stp} (hn : (n : Int) = w) (w6 : w ≤ 6) (ok : ∀ s ∈ st, s.Okw w) (hl : st.length ≤ 12) : F_Lift_far [liftD w st] = .ret (matT n (rops st idM)) (.l []) := by
  have fw : ∀ y : List Sl, fldF ["Lift"] "width" (nameF 0) (.va (liftD w st) :: y) = .ok (.int w) (.va (liftD w st) :: y) := fun y => fldE rfl (by decide) rfl
  have fs : ∀ y : List Sl, fldF ["Lift"] "steps" (nameF 0) (.va (liftD w st) :: y) = .ok (stD st) (.va (liftD w st) :: y) := fun y => fldE rfl (by decide) rfl
  have sm := sm_small (w := w) (by omega) (by omega)
  have rg := rng_nat hn
  have c1 : compN (rng1F (fldF ["Lift"] "width" (nameF 0))) [3] (setA 3) yesT (lstF' (compN (rng1F (fldF ["Lift"] "width" (nameF 0))) [4] (setA 4) yesT (tupF (consF (opnF intD (consF (op2F eqD (nameF 4) (nameF 3)) nilF)) (consF (cF (.int 1)) nilF))))) [.va (liftD w st), .un, .un, .un, .un, .un] = .ok (matD n idM) [.va (liftD w st), .un, .un, .un, .un, .un] := by
    refine compN_src1 (fun i : Nat => D.int (i : Int)) (fun i : Nat => D.lst (rowD n (idM i))) (s1 := [.va (liftD w st), .un, .un, .un, .un, .un]) (xs := List.range n) ?_ (by rw [List.length_range, sizeLine_eq]; omega) (y0 := .un) rfl Pl.un rfl fun i hi => ?_
    · simp only [ev_name, ev_c, ev_op2, ev_op1, ev_toR1, ev_toRL1, ev_nil, ev_cons, ev_opn, ev_opnN, ev_tup, ev_lst, ev_lstN, ev_new, ev_tst, ev_notT, ev_andT, ev_orT, ev_notF, ev_andF, ev_orF, ev_ifF, ev_yes, ev_iter, ev_rng1, ev_rng2, ev_rngW, ev_noP, ev_sl, ev_part, ev_next, ev_noG, ev_seq, ev_drop, ev_ret, ev_retN, ev_if, ev_asg, ev_setA, ev_nilA, ev_consA, ev_seqT, ev_seqL, ev_setN, ev_ok, ev_ioV, ev_ioU, ev_ioW, ev_owV, ev_owU, ev_own, ev_put, ev_ixOwn, ev_lenOwn, ev_setIx, ev_okC, ev_wipe1, ev_wipe0, ev_rest1, ev_rest0, ev_call, ev_callN, ev_ofr, ev_ofn, ev_ofnN, ev_mut, ev_mdl, ev_mdi, ev_io, ev_addI, ev_subI, ev_negI, ev_cmpI, ev_eqI, ev_neI, ev_eqS, ev_neS, ev_intI, ev_intB, ev_absI, ev_lenL, ev_lenT, ev_ixL, ev_ixT, ev_at0, ev_at1, ev_at2, ev_i30, ev_i31, ev_i32, ev_pk1, ev_pk2, ev_pk3, ev_pk4, ev_pkw1, ev_pkw2, ev_pkv2, ev_isI, ev_isN, ev_isB, ev_inI, ev_inN, ev_inB, ev_listT, ev_listL, ev_tupT, ev_tupL, ev_insAt, ev_fldOwn, ev_fldG, ev_callL, ev_noLI, ev_nilL, ev_nameL, ev_lendL, ev_conL, ev_augIx, ev_putAt, ev_iadd, ev_isub, ev_revT, ev_enum, ev_zip, ev_seqDL, ev_seqDT, ev_nilM, ev_vaM, ev_owM, ev_parM, ev_app, ev_par, ev_par3, R.bind_ok, R.out_ok, Option.bind_some, List.getElem?_cons_succ, List.getElem?_cons_zero, List.set_cons_succ, List.set_cons_zero, List.length_cons, List.length_nil, Nat.reduceAdd, Nat.reduceEqDiff, List.getD_cons_succ, List.getD_cons_zero, decide_true, decide_false, Bool.and_true, Bool.and_self, and_self, true_and, List.all_cons, List.all_nil, Bool.not_true, Bool.not_false, if_true, Bool.true_eq_false, Bool.false_eq_true, if_false, fw, sm, rg]
    · have c2 : compN (rng1F (fldF ["Lift"] "width" (nameF 0))) [4] (setA 4) yesT (tupF (consF (opnF intD (consF (op2F eqD (nameF 4) (nameF 3)) nilF)) (consF (cF (.int 1)) nilF))) [.va (liftD w st), .un, .un, .va (.int (i : Int)), .un, .un] = .ok (rowD n (idM i)) [.va (liftD w st), .un, .un, .va (.int (i : Int)), .un, .un] := by
        refine compN_src1 (fun j : Nat => D.int (j : Int)) (fun j : Nat => fr (idM i j)) (s1 := [.va (liftD w st), .un, .un, .va (.int (i : Int)), .un, .un]) (xs := List.range n) ?_ (by rw [List.length_range, sizeLine_eq]; omega) (y0 := .un) rfl Pl.un rfl fun j hj => ?_
        · simp only [ev_name, ev_c, ev_op2, ev_op1, ev_toR1, ev_toRL1, ev_nil, ev_cons, ev_opn, ev_opnN, ev_tup, ev_lst, ev_lstN, ev_new, ev_tst, ev_notT, ev_andT, ev_orT, ev_notF, ev_andF, ev_orF, ev_ifF, ev_yes, ev_iter, ev_rng1, ev_rng2, ev_rngW, ev_noP, ev_sl, ev_part, ev_next, ev_noG, ev_seq, ev_drop, ev_ret, ev_retN, ev_if, ev_asg, ev_setA, ev_nilA, ev_consA, ev_seqT, ev_seqL, ev_setN, ev_ok, ev_ioV, ev_ioU, ev_ioW, ev_owV, ev_owU, ev_own, ev_put, ev_ixOwn, ev_lenOwn, ev_setIx, ev_okC, ev_wipe1, ev_wipe0, ev_rest1, ev_rest0, ev_call, ev_callN, ev_ofr, ev_ofn, ev_ofnN, ev_mut, ev_mdl, ev_mdi, ev_io, ev_addI, ev_subI, ev_negI, ev_cmpI, ev_eqI, ev_neI, ev_eqS, ev_neS, ev_intI, ev_intB, ev_absI, ev_lenL, ev_lenT, ev_ixL, ev_ixT, ev_at0, ev_at1, ev_at2, ev_i30, ev_i31, ev_i32, ev_pk1, ev_pk2, ev_pk3, ev_pk4, ev_pkw1, ev_pkw2, ev_pkv2, ev_isI, ev_isN, ev_isB, ev_inI, ev_inN, ev_inB, ev_listT, ev_listL, ev_tupT, ev_tupL, ev_insAt, ev_fldOwn, ev_fldG, ev_callL, ev_noLI, ev_nilL, ev_nameL, ev_lendL, ev_conL, ev_augIx, ev_putAt, ev_iadd, ev_isub, ev_revT, ev_enum, ev_zip, ev_seqDL, ev_seqDT, ev_nilM, ev_vaM, ev_owM, ev_parM, ev_app, ev_par, ev_par3, R.bind_ok, R.out_ok, Option.bind_some, List.getElem?_cons_succ, List.getElem?_cons_zero, List.set_cons_succ, List.set_cons_zero, List.length_cons, List.length_nil, Nat.reduceAdd, Nat.reduceEqDiff, List.getD_cons_succ, List.getD_cons_zero, decide_true, decide_false, Bool.and_true, Bool.and_self, and_self, true_and, List.all_cons, List.all_nil, Bool.not_true, Bool.not_false, if_true, Bool.true_eq_false, Bool.false_eq_true, if_false, fw, sm, rg]
        · rw [fr_id]
          show tupF _ [.va (liftD w st), .un, .un, .va (.int (i : Int)), .va (.int (j : Int)), .un] = .ok _ [.va (liftD w st), .un, .un, .va (.int (i : Int)), .va (.int (j : Int)), .un]
          simp only [ev_name, ev_c, ev_op2, ev_op1, ev_toR1, ev_toRL1, ev_nil, ev_cons, ev_opn, ev_opnN, ev_tup, ev_lst, ev_lstN, ev_new, ev_tst, ev_notT, ev_andT, ev_orT, ev_notF, ev_andF, ev_orF, ev_ifF, ev_yes, ev_iter, ev_rng1, ev_rng2, ev_rngW, ev_noP, ev_sl, ev_part, ev_next, ev_noG, ev_seq, ev_drop, ev_ret, ev_retN, ev_if, ev_asg, ev_setA, ev_nilA, ev_consA, ev_seqT, ev_seqL, ev_setN, ev_ok, ev_ioV, ev_ioU, ev_ioW, ev_owV, ev_owU, ev_own, ev_put, ev_ixOwn, ev_lenOwn, ev_setIx, ev_comp, ev_compL0, ev_compL1, ev_okC, ev_wipe1, ev_wipe0, ev_rest1, ev_rest0, ev_call, ev_callN, ev_ofr, ev_ofn, ev_ofnN, ev_mut, ev_mdl, ev_mdi, ev_io, ev_addI, ev_subI, ev_negI, ev_cmpI, ev_eqI, ev_neI, ev_eqS, ev_neS, ev_intI, ev_intB, ev_absI, ev_lenL, ev_lenT, ev_ixL, ev_ixT, ev_at0, ev_at1, ev_at2, ev_i30, ev_i31, ev_i32, ev_pk1, ev_pk2, ev_pk3, ev_pk4, ev_pkw1, ev_pkw2, ev_pkv2, ev_isI, ev_isN, ev_isB, ev_inI, ev_inN, ev_inB, ev_listT, ev_listL, ev_tupT, ev_tupL, ev_fld, ev_insAt, ev_fldOwn, ev_fldG, ev_meth, ev_make, ev_callL, ev_noLI, ev_nilL, ev_nameL, ev_lendL, ev_conL, ev_augIx, ev_putAt, ev_iadd, ev_isub, ev_revT, ev_enum, ev_zip, ev_seqDL, ev_seqDT, ev_nilM, ev_vaM, ev_owM, ev_parM, ev_app, ev_par, ev_par3, R.bind_ok, R.out_ok, Option.bind_some, List.getElem?_cons_succ, List.getElem?_cons_zero, List.set_cons_succ, List.set_cons_zero, List.length_cons, List.length_nil, Nat.reduceAdd, Nat.reduceEqDiff, List.getD_cons_succ, List.getD_cons_zero, decide_true, decide_false, Bool.and_true, Bool.and_self, and_self, true_and, List.all_cons, List.all_nil, Bool.not_true, Bool.not_false, if_true, Bool.true_eq_false, Bool.false_eq_true, if_false, sz2]
      show lstF' _ [.va (liftD w st), .un, .un, .va (.int (i : Int)), .un, .un] = .ok _ [.va (liftD w st), .un, .un, .va (.int (i : Int)), .un, .un]
      simp only [ev_name, ev_c, ev_op2, ev_op1, ev_toR1, ev_toRL1, ev_nil, ev_cons, ev_opn, ev_opnN, ev_tup, ev_lst, ev_lstN, ev_new, ev_tst, ev_notT, ev_andT, ev_orT, ev_notF, ev_andF, ev_orF, ev_ifF, ev_yes, ev_iter, ev_rng1, ev_rng2, ev_rngW, ev_noP, ev_sl, ev_part, ev_next, ev_noG, ev_seq, ev_drop, ev_ret, ev_retN, ev_if, ev_asg, ev_setA, ev_nilA, ev_consA, ev_seqT, ev_seqL, ev_setN, ev_ok, ev_ioV, ev_ioU, ev_ioW, ev_owV, ev_owU, ev_own, ev_put, ev_ixOwn, ev_lenOwn, ev_setIx, ev_okC, ev_wipe1, ev_wipe0, ev_rest1, ev_rest0, ev_call, ev_callN, ev_ofr, ev_ofn, ev_ofnN, ev_mut, ev_mdl, ev_mdi, ev_io, ev_addI, ev_subI, ev_negI, ev_cmpI, ev_eqI, ev_neI, ev_eqS, ev_neS, ev_intI, ev_intB, ev_absI, ev_lenL, ev_lenT, ev_ixL, ev_ixT, ev_at0, ev_at1, ev_at2, ev_i30, ev_i31, ev_i32, ev_pk1, ev_pk2, ev_pk3, ev_pk4, ev_pkw1, ev_pkw2, ev_pkv2, ev_isI, ev_isN, ev_isB, ev_inI, ev_inN, ev_inB, ev_listT, ev_listL, ev_tupT, ev_tupL, ev_insAt, ev_fldOwn, ev_fldG, ev_callL, ev_noLI, ev_nilL, ev_nameL, ev_lendL, ev_conL, ev_augIx, ev_putAt, ev_iadd, ev_isub, ev_revT, ev_enum, ev_zip, ev_seqDL, ev_seqDT, ev_nilM, ev_vaM, ev_owM, ev_parM, ev_app, ev_par, ev_par3, R.bind_ok, R.out_ok, Option.bind_some, List.getElem?_cons_succ, List.getElem?_cons_zero, List.set_cons_succ, List.set_cons_zero, List.length_cons, List.length_nil, Nat.reduceAdd, Nat.reduceEqDiff, List.getD_cons_succ, List.getD_cons_zero, decide_true, decide_false, Bool.and_true, Bool.and_self, and_self, true_and, List.all_cons, List.all_nil, Bool.not_true, Bool.not_false, if_true, Bool.true_eq_false, Bool.false_eq_true, if_false, c2]
  obtain ⟨z2, e⟩ := far_loop (x0 := .va (liftD w st)) (x3 := .un) (x4 := .un) (x5 := .un) hn w6 st idM 1 0 .un ok (by decide) (lenB hl) (by omega) ov_id Pl.un
  have c3 : compN (iterF (nameF 1)) [5] (setA 5) yesT (opnF tupleD (consF (nameF 5) nilF)) [.va (liftD w st), .ow (.l (matD n (rops st idM))), z2, .un, .un, .un] = .ok ((List.range n).map fun i => D.tup (rowD n (rops st idM i))) [.va (liftD w st), .va (.lst (matD n (rops st idM))), z2, .un, .un, .un] :=
    compN_src1 (fun i : Nat => D.lst (rowD n (rops st idM i))) (fun i : Nat => D.tup (rowD n (rops st idM i))) (s1 := [.va (liftD w st), .va (.lst (matD n (rops st idM))), z2, .un, .un, .un]) (xs := List.range n) rfl (by rw [List.length_range, sizeLine_eq]; omega) (y0 := .un) rfl Pl.un rfl fun i hi => rfl
  unfold stD at fs
  show outF false (g_Lift_far [.va (liftD w st), .un, .un, .un, .un, .un]) = _
  simp only [g_Lift_far, ev_name, ev_c, ev_op2, ev_op1, ev_toR1, ev_toRL1, ev_nil, ev_cons, ev_opn, ev_opnN, ev_tup, ev_lst, ev_lstN, ev_new, ev_tst, ev_notT, ev_andT, ev_orT, ev_notF, ev_andF, ev_orF, ev_ifF, ev_yes, ev_iter, ev_rng1, ev_rng2, ev_rngW, ev_noP, ev_sl, ev_part, ev_next, ev_noG, ev_seq, ev_drop, ev_ret, ev_retN, ev_if, ev_asg, ev_setA, ev_nilA, ev_consA, ev_seqT, ev_seqL, ev_setN, ev_ok, ev_ioV, ev_ioU, ev_ioW, ev_owV, ev_owU, ev_own, ev_put, ev_ixOwn, ev_lenOwn, ev_setIx, ev_okC, ev_wipe1, ev_wipe0, ev_rest1, ev_rest0, ev_call, ev_callN, ev_ofr, ev_ofn, ev_ofnN, ev_mut, ev_mdl, ev_mdi, ev_io, ev_addI, ev_subI, ev_negI, ev_cmpI, ev_eqI, ev_neI, ev_eqS, ev_neS, ev_intI, ev_intB, ev_absI, ev_lenL, ev_lenT, ev_ixL, ev_ixT, ev_at0, ev_at1, ev_at2, ev_i30, ev_i31, ev_i32, ev_pk1, ev_pk2, ev_pk3, ev_pk4, ev_pkw1, ev_pkw2, ev_pkv2, ev_isI, ev_isN, ev_isB, ev_inI, ev_inN, ev_inB, ev_listT, ev_listL, ev_tupT, ev_tupL, ev_insAt, ev_fldOwn, ev_fldG, ev_callL, ev_noLI, ev_nilL, ev_nameL, ev_lendL, ev_conL, ev_augIx, ev_putAt, ev_iadd, ev_isub, ev_revT, ev_enum, ev_zip, ev_seqDL, ev_seqDT, ev_nilM, ev_vaM, ev_owM, ev_parM, ev_app, ev_par, ev_par3, R.bind_ok, R.out_ok, Option.bind_some, List.getElem?_cons_succ, List.getElem?_cons_zero, List.set_cons_succ, List.set_cons_zero, List.length_cons, List.length_nil, Nat.reduceAdd, Nat.reduceEqDiff, List.getD_cons_succ, List.getD_cons_zero, decide_true, decide_false, Bool.and_true, Bool.and_self, and_self, true_and, List.all_cons, List.all_nil, Bool.not_true, Bool.not_false, if_true, Bool.true_eq_false, Bool.false_eq_true, if_false, ev_for, c1, fs, e, c3]
  rfl
theorem lfar_loop {w : Int} {n : Nat} {x0 x1 y9 y10 y11 y12 : Sl} (hn : (n : Int) = w) (w6 : w ≤ 6) (q11 : Pl y11) (q12 : Pl y12) : ∀ (st : List Stp) (A : Mat) (W m : Nat) (y2 y4 y5 y6 y7 y8 : Sl), (∀ s ∈ st, s.Okw w) → 0 < W → W * 16 ^ st.length ≤ 2 ^ 400 → m + 9 * st.length ≤ 400 → OvM W m A → Pl y2 → Pl y4 → Pl y5 → Pl y6 → Pl y7 → Pl y8 →
    ∃ z2 z4 z5 z6 z7 z8, forL (seqA 4 (consA (setA 4) (consA (setA 5) (consA (setA 6) (consA (setA 7) nilA))))) g__law_far_b2 (st.map Stp.d) [x0, x1, y2, .ow (.l (matD n A)), y4, y5, y6, y7, y8, y9, y10, y11, y12] = .nx [x0, x1, z2, .ow (.l (matD n (rops st A))), z4, z5, z6, z7, z8, y9, y10, y11, y12]
  | [], A, W, m, y2, y4, y5, y6, y7, y8, _, _, _, _, _, _, _, _, _, _, _ => ⟨y2, y4, y5, y6, y7, y8, rfl⟩
  | s :: st, A, W, m, y2, y4, y5, y6, y7, y8, ok, hW, hB, hm, h, q2, q4, q5, q6, q7, q8 => by
    have os := ok s List.mem_cons_self
    have t0 := os.t0
    have t1 := os.t1
    have o0 := os.o0
    have o1 := os.o1
    rw [List.length_cons] at hm
    have hB2 : W * s.o.toNat * 16 ^ st.length ≤ 2 ^ 400 := by
      refine Nat.le_trans ?_ hB
      rw [List.length_cons, Nat.pow_succ, Nat.mul_comm (16 ^ st.length) 16, ← Nat.mul_assoc]
      exact Nat.mul_le_mul_right _ (Nat.mul_le_mul_left _ (by omega))
    have hWo : ((W * s.o.toNat : Nat) : Int) ≤ 2 ^ 400 := by
      have h1 : W * s.o.toNat * 1 ≤ W * s.o.toNat * 16 ^ st.length := Nat.mul_le_mul_left _ (Nat.pow_pos (by decide))
      have h2 := pow_cast 400
      omega
    have hWW : (W : Int) ≤ 2 ^ 400 := by
      have h1 : W * 1 ≤ W * s.o.toNat := Nat.mul_le_mul_left _ (by omega)
      omega
    have hWp : 0 < W * s.o.toNat := Nat.mul_pos hW (by omega)
    obtain ⟨u2, u8, e1, r2, r8⟩ := law_parts2 (n := n) (A := A) (x0 := x0) (x1 := x1) (x5 := .va (.tup (s.ps.map pairD))) (x6 := .va (.int s.a)) (y9 := y9) (y10 := y10) os hn w6 (fun i j _ => ov_sq (h i j) hW hWW (by omega)) q11 q12 s.ps (A s.t.toNat) y2 y8 (fun p hp => hp) (fun ps1 ps2 e j _ => ov_sq (ov_row os w6 hW h ps1 ps2 e j) hWp hWo (by omega)) q2 q8
    rw [upd_self] at e1
    obtain ⟨z2, z4, z5, z6, z7, z8, e⟩ := lfar_loop (x0 := x0) (x1 := x1) (y9 := y9) (y10 := y10) hn w6 q11 q12 st (rop s A) (W * s.o.toNat) (m + 9) u2 (.va (.int s.t)) (.va (.tup (s.ps.map pairD))) (.va (.int s.a)) (.va (.int s.o)) u8 (fun t ht => ok t (List.mem_cons_of_mem _ ht)) hWp hB2 (by omega) (ov_rop os w6 hW h) r2 Pl.va Pl.va Pl.va Pl.va r8
    refine ⟨z2, z4, z5, z6, z7, z8, ?_⟩
    have sq : ∀ (b : ASs) (t : List Sl), seqA 4 b s.d t = b [.int s.t, .tup (s.ps.map pairD), .int s.a, .int s.o] t := fun _ _ => rfl
    have ea : seqA 4 (consA (setA 4) (consA (setA 5) (consA (setA 6) (consA (setA 7) nilA)))) s.d [x0, x1, y2, .ow (.l (matD n A)), y4, y5, y6, y7, y8, y9, y10, y11, y12] = some [x0, x1, y2, .ow (.l (matD n A)), .va (.int s.t), .va (.tup (s.ps.map pairD)), .va (.int s.a), .va (.int s.o), y8, y9, y10, y11, y12] := by
      simp only [ev_name, ev_c, ev_op2, ev_op1, ev_toR1, ev_toRL1, ev_nil, ev_cons, ev_opn, ev_opnN, ev_tup, ev_lst, ev_lstN, ev_new, ev_tst, ev_notT, ev_andT, ev_orT, ev_notF, ev_andF, ev_orF, ev_ifF, ev_yes, ev_iter, ev_rng1, ev_rng2, ev_rngW, ev_noP, ev_sl, ev_part, ev_next, ev_noG, ev_seq, ev_drop, ev_ret, ev_retN, ev_if, ev_asg, ev_setA, ev_nilA, ev_consA, ev_seqT, ev_seqL, ev_setN, ev_ok, ev_ioV, ev_ioU, ev_ioW, ev_owV, ev_owU, ev_own, ev_put, ev_ixOwn, ev_lenOwn, ev_setIx, ev_comp, ev_compL0, ev_compL1, ev_okC, ev_wipe1, ev_wipe0, ev_rest1, ev_rest0, ev_call, ev_callN, ev_ofr, ev_ofn, ev_ofnN, ev_mut, ev_mdl, ev_mdi, ev_io, ev_addI, ev_subI, ev_negI, ev_cmpI, ev_eqI, ev_neI, ev_eqS, ev_neS, ev_intI, ev_intB, ev_absI, ev_lenL, ev_lenT, ev_ixL, ev_ixT, ev_at0, ev_at1, ev_at2, ev_i30, ev_i31, ev_i32, ev_pk1, ev_pk2, ev_pk3, ev_pk4, ev_pkw1, ev_pkw2, ev_pkv2, ev_isI, ev_isN, ev_isB, ev_inI, ev_inN, ev_inB, ev_listT, ev_listL, ev_tupT, ev_tupL, ev_fld, ev_insAt, ev_fldOwn, ev_fldG, ev_meth, ev_make, ev_callL, ev_noLI, ev_nilL, ev_nameL, ev_lendL, ev_conL, ev_augIx, ev_putAt, ev_iadd, ev_isub, ev_revT, ev_enum, ev_zip, ev_seqDL, ev_seqDT, ev_nilM, ev_vaM, ev_owM, ev_parM, ev_app, ev_par, ev_par3, R.bind_ok, R.out_ok, Option.bind_some, List.getElem?_cons_succ, List.getElem?_cons_zero, List.set_cons_succ, List.set_cons_zero, List.length_cons, List.length_nil, Nat.reduceAdd, Nat.reduceEqDiff, List.getD_cons_succ, List.getD_cons_zero, decide_true, decide_false, Bool.and_true, Bool.and_self, and_self, true_and, List.all_cons, List.all_nil, Bool.not_true, Bool.not_false, if_true, Bool.true_eq_false, Bool.false_eq_true, if_false, sq, q4.1, q5.1, q6.1, q7.1]
    have eb : g__law_far_b2 [x0, x1, y2, .ow (.l (matD n A)), .va (.int s.t), .va (.tup (s.ps.map pairD)), .va (.int s.a), .va (.int s.o), y8, y9, y10, y11, y12] = .nx [x0, x1, u2, .ow (.l (matD n (rop s A))), .va (.int s.t), .va (.tup (s.ps.map pairD)), .va (.int s.a), .va (.int s.o), u8, y9, y10, y11, y12] := by
      rw [show (Out.nx [x0, x1, u2, .ow (.l (matD n (rop s A))), .va (.int s.t), .va (.tup (s.ps.map pairD)), .va (.int s.a), .va (.int s.o), u8, y9, y10, y11, y12]) = _ from e1.symm]
      simp only [g__law_far_b2, ev_name, ev_c, ev_op2, ev_op1, ev_toR1, ev_toRL1, ev_nil, ev_cons, ev_opn, ev_opnN, ev_tup, ev_lst, ev_lstN, ev_new, ev_tst, ev_notT, ev_andT, ev_orT, ev_notF, ev_andF, ev_orF, ev_ifF, ev_yes, ev_iter, ev_rng1, ev_rng2, ev_rngW, ev_noP, ev_sl, ev_part, ev_next, ev_noG, ev_seq, ev_drop, ev_ret, ev_retN, ev_if, ev_asg, ev_setA, ev_nilA, ev_consA, ev_seqT, ev_seqL, ev_setN, ev_ok, ev_ioV, ev_ioU, ev_ioW, ev_owV, ev_owU, ev_own, ev_put, ev_ixOwn, ev_lenOwn, ev_setIx, ev_comp, ev_compL0, ev_compL1, ev_okC, ev_wipe1, ev_wipe0, ev_rest1, ev_rest0, ev_call, ev_callN, ev_ofr, ev_ofn, ev_ofnN, ev_mut, ev_mdl, ev_mdi, ev_io, ev_addI, ev_subI, ev_negI, ev_cmpI, ev_eqI, ev_neI, ev_eqS, ev_neS, ev_intI, ev_intB, ev_absI, ev_lenL, ev_lenT, ev_ixL, ev_ixT, ev_at0, ev_at1, ev_at2, ev_i30, ev_i31, ev_i32, ev_pk1, ev_pk2, ev_pk3, ev_pk4, ev_pkw1, ev_pkw2, ev_pkv2, ev_isI, ev_isN, ev_isB, ev_inI, ev_inN, ev_inB, ev_listT, ev_listL, ev_tupT, ev_tupL, ev_fld, ev_insAt, ev_fldOwn, ev_fldG, ev_meth, ev_make, ev_callL, ev_noLI, ev_nilL, ev_nameL, ev_lendL, ev_conL, ev_augIx, ev_putAt, ev_iadd, ev_isub, ev_revT, ev_enum, ev_zip, ev_seqDL, ev_seqDT, ev_nilM, ev_vaM, ev_owM, ev_parM, ev_app, ev_par, ev_par3, R.bind_ok, R.out_ok, Option.bind_some, List.getElem?_cons_succ, List.getElem?_cons_zero, List.set_cons_succ, List.set_cons_zero, List.length_cons, List.length_nil, Nat.reduceAdd, Nat.reduceEqDiff, List.getD_cons_succ, List.getD_cons_zero, decide_true, decide_false, Bool.and_true, Bool.and_self, and_self, true_and, List.all_cons, List.all_nil, Bool.not_true, Bool.not_false, if_true, Bool.true_eq_false, Bool.false_eq_true, if_false, ev_for]
    rw [List.map_cons, forL, ea]
    dsimp only
    rw [eb]
    exact e
theorem lfarP {w : Int} {n : Nat} {st : List Stp} (hn : (n : Int) = w) (w6 : w ≤ 6) (ok : ∀ s ∈ st, s.Okw w) (hl : st.length ≤ 12) : F__law_far [.int w, stD st] = .ret (matT n (rops st idM)) (.l []) := by
  have sm := sm_small (w := w) (by omega) (by omega)
  have rg := rng_nat hn
  have c1 : compN (rng1F (nameF 0)) [2] (setA 2) yesT (lstF' (compN (rng1F (nameF 0)) [9] (setA 9) yesT (tupF (consF (opnF intD (consF (op2F eqD (nameF 9) (nameF 2)) nilF)) (consF (cF (.int 1)) nilF))))) [.va (.int w), .va (stD st), .un, .un, .un, .un, .un, .un, .un, .un, .un, .un, .un] = .ok (matD n idM) [.va (.int w), .va (stD st), .un, .un, .un, .un, .un, .un, .un, .un, .un, .un, .un] := by
    refine compN_src1 (fun i : Nat => D.int (i : Int)) (fun i : Nat => D.lst (rowD n (idM i))) (s1 := [.va (.int w), .va (stD st), .un, .un, .un, .un, .un, .un, .un, .un, .un, .un, .un]) (xs := List.range n) ?_ (by rw [List.length_range, sizeLine_eq]; omega) (y0 := .un) rfl Pl.un rfl fun i hi => ?_
    · simp only [ev_name, ev_c, ev_op2, ev_op1, ev_toR1, ev_toRL1, ev_nil, ev_cons, ev_opn, ev_opnN, ev_tup, ev_lst, ev_lstN, ev_new, ev_tst, ev_notT, ev_andT, ev_orT, ev_notF, ev_andF, ev_orF, ev_ifF, ev_yes, ev_iter, ev_rng1, ev_rng2, ev_rngW, ev_noP, ev_sl, ev_part, ev_next, ev_noG, ev_seq, ev_drop, ev_ret, ev_retN, ev_if, ev_asg, ev_setA, ev_nilA, ev_consA, ev_seqT, ev_seqL, ev_setN, ev_ok, ev_ioV, ev_ioU, ev_ioW, ev_owV, ev_owU, ev_own, ev_put, ev_ixOwn, ev_lenOwn, ev_setIx, ev_okC, ev_wipe1, ev_wipe0, ev_rest1, ev_rest0, ev_call, ev_callN, ev_ofr, ev_ofn, ev_ofnN, ev_mut, ev_mdl, ev_mdi, ev_io, ev_addI, ev_subI, ev_negI, ev_cmpI, ev_eqI, ev_neI, ev_eqS, ev_neS, ev_intI, ev_intB, ev_absI, ev_lenL, ev_lenT, ev_ixL, ev_ixT, ev_at0, ev_at1, ev_at2, ev_i30, ev_i31, ev_i32, ev_pk1, ev_pk2, ev_pk3, ev_pk4, ev_pkw1, ev_pkw2, ev_pkv2, ev_isI, ev_isN, ev_isB, ev_inI, ev_inN, ev_inB, ev_listT, ev_listL, ev_tupT, ev_tupL, ev_insAt, ev_fldOwn, ev_fldG, ev_callL, ev_noLI, ev_nilL, ev_nameL, ev_lendL, ev_conL, ev_augIx, ev_putAt, ev_iadd, ev_isub, ev_revT, ev_enum, ev_zip, ev_seqDL, ev_seqDT, ev_nilM, ev_vaM, ev_owM, ev_parM, ev_app, ev_par, ev_par3, R.bind_ok, R.out_ok, Option.bind_some, List.getElem?_cons_succ, List.getElem?_cons_zero, List.set_cons_succ, List.set_cons_zero, List.length_cons, List.length_nil, Nat.reduceAdd, Nat.reduceEqDiff, List.getD_cons_succ, List.getD_cons_zero, decide_true, decide_false, Bool.and_true, Bool.and_self, and_self, true_and, List.all_cons, List.all_nil, Bool.not_true, Bool.not_false, if_true, Bool.true_eq_false, Bool.false_eq_true, if_false, sm, rg]
    · have c2 : compN (rng1F (nameF 0)) [9] (setA 9) yesT (tupF (consF (opnF intD (consF (op2F eqD (nameF 9) (nameF 2)) nilF)) (consF (cF (.int 1)) nilF))) [.va (.int w), .va (stD st), .va (.int (i : Int)), .un, .un, .un, .un, .un, .un, .un, .un, .un, .un] = .ok (rowD n (idM i)) [.va (.int w), .va (stD st), .va (.int (i : Int)), .un, .un, .un, .un, .un, .un, .un, .un, .un, .un] := by
        refine compN_src1 (fun j : Nat => D.int (j : Int)) (fun j : Nat => fr (idM i j)) (s1 := [.va (.int w), .va (stD st), .va (.int (i : Int)), .un, .un, .un, .un, .un, .un, .un, .un, .un, .un]) (xs := List.range n) ?_ (by rw [List.length_range, sizeLine_eq]; omega) (y0 := .un) rfl Pl.un rfl fun j hj => ?_
        · simp only [ev_name, ev_c, ev_op2, ev_op1, ev_toR1, ev_toRL1, ev_nil, ev_cons, ev_opn, ev_opnN, ev_tup, ev_lst, ev_lstN, ev_new, ev_tst, ev_notT, ev_andT, ev_orT, ev_notF, ev_andF, ev_orF, ev_ifF, ev_yes, ev_iter, ev_rng1, ev_rng2, ev_rngW, ev_noP, ev_sl, ev_part, ev_next, ev_noG, ev_seq, ev_drop, ev_ret, ev_retN, ev_if, ev_asg, ev_setA, ev_nilA, ev_consA, ev_seqT, ev_seqL, ev_setN, ev_ok, ev_ioV, ev_ioU, ev_ioW, ev_owV, ev_owU, ev_own, ev_put, ev_ixOwn, ev_lenOwn, ev_setIx, ev_okC, ev_wipe1, ev_wipe0, ev_rest1, ev_rest0, ev_call, ev_callN, ev_ofr, ev_ofn, ev_ofnN, ev_mut, ev_mdl, ev_mdi, ev_io, ev_addI, ev_subI, ev_negI, ev_cmpI, ev_eqI, ev_neI, ev_eqS, ev_neS, ev_intI, ev_intB, ev_absI, ev_lenL, ev_lenT, ev_ixL, ev_ixT, ev_at0, ev_at1, ev_at2, ev_i30, ev_i31, ev_i32, ev_pk1, ev_pk2, ev_pk3, ev_pk4, ev_pkw1, ev_pkw2, ev_pkv2, ev_isI, ev_isN, ev_isB, ev_inI, ev_inN, ev_inB, ev_listT, ev_listL, ev_tupT, ev_tupL, ev_insAt, ev_fldOwn, ev_fldG, ev_callL, ev_noLI, ev_nilL, ev_nameL, ev_lendL, ev_conL, ev_augIx, ev_putAt, ev_iadd, ev_isub, ev_revT, ev_enum, ev_zip, ev_seqDL, ev_seqDT, ev_nilM, ev_vaM, ev_owM, ev_parM, ev_app, ev_par, ev_par3, R.bind_ok, R.out_ok, Option.bind_some, List.getElem?_cons_succ, List.getElem?_cons_zero, List.set_cons_succ, List.set_cons_zero, List.length_cons, List.length_nil, Nat.reduceAdd, Nat.reduceEqDiff, List.getD_cons_succ, List.getD_cons_zero, decide_true, decide_false, Bool.and_true, Bool.and_self, and_self, true_and, List.all_cons, List.all_nil, Bool.not_true, Bool.not_false, if_true, Bool.true_eq_false, Bool.false_eq_true, if_false, sm, rg]
        · rw [fr_id]
          show tupF _ [.va (.int w), .va (stD st), .va (.int (i : Int)), .un, .un, .un, .un, .un, .un, .va (.int (j : Int)), .un, .un, .un] = .ok _ [.va (.int w), .va (stD st), .va (.int (i : Int)), .un, .un, .un, .un, .un, .un, .va (.int (j : Int)), .un, .un, .un]
          simp only [ev_name, ev_c, ev_op2, ev_op1, ev_toR1, ev_toRL1, ev_nil, ev_cons, ev_opn, ev_opnN, ev_tup, ev_lst, ev_lstN, ev_new, ev_tst, ev_notT, ev_andT, ev_orT, ev_notF, ev_andF, ev_orF, ev_ifF, ev_yes, ev_iter, ev_rng1, ev_rng2, ev_rngW, ev_noP, ev_sl, ev_part, ev_next, ev_noG, ev_seq, ev_drop, ev_ret, ev_retN, ev_if, ev_asg, ev_setA, ev_nilA, ev_consA, ev_seqT, ev_seqL, ev_setN, ev_ok, ev_ioV, ev_ioU, ev_ioW, ev_owV, ev_owU, ev_own, ev_put, ev_ixOwn, ev_lenOwn, ev_setIx, ev_comp, ev_compL0, ev_compL1, ev_okC, ev_wipe1, ev_wipe0, ev_rest1, ev_rest0, ev_call, ev_callN, ev_ofr, ev_ofn, ev_ofnN, ev_mut, ev_mdl, ev_mdi, ev_io, ev_addI, ev_subI, ev_negI, ev_cmpI, ev_eqI, ev_neI, ev_eqS, ev_neS, ev_intI, ev_intB, ev_absI, ev_lenL, ev_lenT, ev_ixL, ev_ixT, ev_at0, ev_at1, ev_at2, ev_i30, ev_i31, ev_i32, ev_pk1, ev_pk2, ev_pk3, ev_pk4, ev_pkw1, ev_pkw2, ev_pkv2, ev_isI, ev_isN, ev_isB, ev_inI, ev_inN, ev_inB, ev_listT, ev_listL, ev_tupT, ev_tupL, ev_fld, ev_insAt, ev_fldOwn, ev_fldG, ev_meth, ev_make, ev_callL, ev_noLI, ev_nilL, ev_nameL, ev_lendL, ev_conL, ev_augIx, ev_putAt, ev_iadd, ev_isub, ev_revT, ev_enum, ev_zip, ev_seqDL, ev_seqDT, ev_nilM, ev_vaM, ev_owM, ev_parM, ev_app, ev_par, ev_par3, R.bind_ok, R.out_ok, Option.bind_some, List.getElem?_cons_succ, List.getElem?_cons_zero, List.set_cons_succ, List.set_cons_zero, List.length_cons, List.length_nil, Nat.reduceAdd, Nat.reduceEqDiff, List.getD_cons_succ, List.getD_cons_zero, decide_true, decide_false, Bool.and_true, Bool.and_self, and_self, true_and, List.all_cons, List.all_nil, Bool.not_true, Bool.not_false, if_true, Bool.true_eq_false, Bool.false_eq_true, if_false, sz2]
      show lstF' _ [.va (.int w), .va (stD st), .va (.int (i : Int)), .un, .un, .un, .un, .un, .un, .un, .un, .un, .un] = .ok _ [.va (.int w), .va (stD st), .va (.int (i : Int)), .un, .un, .un, .un, .un, .un, .un, .un, .un, .un]
      simp only [ev_name, ev_c, ev_op2, ev_op1, ev_toR1, ev_toRL1, ev_nil, ev_cons, ev_opn, ev_opnN, ev_tup, ev_lst, ev_lstN, ev_new, ev_tst, ev_notT, ev_andT, ev_orT, ev_notF, ev_andF, ev_orF, ev_ifF, ev_yes, ev_iter, ev_rng1, ev_rng2, ev_rngW, ev_noP, ev_sl, ev_part, ev_next, ev_noG, ev_seq, ev_drop, ev_ret, ev_retN, ev_if, ev_asg, ev_setA, ev_nilA, ev_consA, ev_seqT, ev_seqL, ev_setN, ev_ok, ev_ioV, ev_ioU, ev_ioW, ev_owV, ev_owU, ev_own, ev_put, ev_ixOwn, ev_lenOwn, ev_setIx, ev_okC, ev_wipe1, ev_wipe0, ev_rest1, ev_rest0, ev_call, ev_callN, ev_ofr, ev_ofn, ev_ofnN, ev_mut, ev_mdl, ev_mdi, ev_io, ev_addI, ev_subI, ev_negI, ev_cmpI, ev_eqI, ev_neI, ev_eqS, ev_neS, ev_intI, ev_intB, ev_absI, ev_lenL, ev_lenT, ev_ixL, ev_ixT, ev_at0, ev_at1, ev_at2, ev_i30, ev_i31, ev_i32, ev_pk1, ev_pk2, ev_pk3, ev_pk4, ev_pkw1, ev_pkw2, ev_pkv2, ev_isI, ev_isN, ev_isB, ev_inI, ev_inN, ev_inB, ev_listT, ev_listL, ev_tupT, ev_tupL, ev_insAt, ev_fldOwn, ev_fldG, ev_callL, ev_noLI, ev_nilL, ev_nameL, ev_lendL, ev_conL, ev_augIx, ev_putAt, ev_iadd, ev_isub, ev_revT, ev_enum, ev_zip, ev_seqDL, ev_seqDT, ev_nilM, ev_vaM, ev_owM, ev_parM, ev_app, ev_par, ev_par3, R.bind_ok, R.out_ok, Option.bind_some, List.getElem?_cons_succ, List.getElem?_cons_zero, List.set_cons_succ, List.set_cons_zero, List.length_cons, List.length_nil, Nat.reduceAdd, Nat.reduceEqDiff, List.getD_cons_succ, List.getD_cons_zero, decide_true, decide_false, Bool.and_true, Bool.and_self, and_self, true_and, List.all_cons, List.all_nil, Bool.not_true, Bool.not_false, if_true, Bool.true_eq_false, Bool.false_eq_true, if_false, c2]
  obtain ⟨z2, z4, z5, z6, z7, z8, e⟩ := lfar_loop (x0 := .va (.int w)) (x1 := .va (stD st)) (y9 := .un) (y10 := .un) hn w6 Pl.un Pl.un st idM 1 0 .un .un .un .un .un .un ok (by decide) (lenB hl) (by omega) ov_id Pl.un Pl.un Pl.un Pl.un Pl.un Pl.un
  have c3 : compN (iterF (nameF 3)) [10] (setA 10) yesT (opnF tupleD (consF (nameF 10) nilF)) [.va (.int w), .va (stD st), z2, .ow (.l (matD n (rops st idM))), z4, z5, z6, z7, z8, .un, .un, .un, .un] = .ok ((List.range n).map fun i => D.tup (rowD n (rops st idM i))) [.va (.int w), .va (stD st), z2, .va (.lst (matD n (rops st idM))), z4, z5, z6, z7, z8, .un, .un, .un, .un] :=
    compN_src1 (fun i : Nat => D.lst (rowD n (rops st idM i))) (fun i : Nat => D.tup (rowD n (rops st idM i))) (s1 := [.va (.int w), .va (stD st), z2, .va (.lst (matD n (rops st idM))), z4, z5, z6, z7, z8, .un, .un, .un, .un]) (xs := List.range n) rfl (by rw [List.length_range, sizeLine_eq]; omega) (y0 := .un) rfl Pl.un rfl fun i hi => rfl
  show outF false (g__law_far [.va (.int w), .va (stD st), .un, .un, .un, .un, .un, .un, .un, .un, .un, .un, .un]) = _
  unfold stD at *
  simp only [g__law_far, ev_name, ev_c, ev_op2, ev_op1, ev_toR1, ev_toRL1, ev_nil, ev_cons, ev_opn, ev_opnN, ev_tup, ev_lst, ev_lstN, ev_new, ev_tst, ev_notT, ev_andT, ev_orT, ev_notF, ev_andF, ev_orF, ev_ifF, ev_yes, ev_iter, ev_rng1, ev_rng2, ev_rngW, ev_noP, ev_sl, ev_part, ev_next, ev_noG, ev_seq, ev_drop, ev_ret, ev_retN, ev_if, ev_asg, ev_setA, ev_nilA, ev_consA, ev_seqT, ev_seqL, ev_setN, ev_ok, ev_ioV, ev_ioU, ev_ioW, ev_owV, ev_owU, ev_own, ev_put, ev_ixOwn, ev_lenOwn, ev_setIx, ev_okC, ev_wipe1, ev_wipe0, ev_rest1, ev_rest0, ev_call, ev_callN, ev_ofr, ev_ofn, ev_ofnN, ev_mut, ev_mdl, ev_mdi, ev_io, ev_addI, ev_subI, ev_negI, ev_cmpI, ev_eqI, ev_neI, ev_eqS, ev_neS, ev_intI, ev_intB, ev_absI, ev_lenL, ev_lenT, ev_ixL, ev_ixT, ev_at0, ev_at1, ev_at2, ev_i30, ev_i31, ev_i32, ev_pk1, ev_pk2, ev_pk3, ev_pk4, ev_pkw1, ev_pkw2, ev_pkv2, ev_isI, ev_isN, ev_isB, ev_inI, ev_inN, ev_inB, ev_listT, ev_listL, ev_tupT, ev_tupL, ev_insAt, ev_fldOwn, ev_fldG, ev_callL, ev_noLI, ev_nilL, ev_nameL, ev_lendL, ev_conL, ev_augIx, ev_putAt, ev_iadd, ev_isub, ev_revT, ev_enum, ev_zip, ev_seqDL, ev_seqDT, ev_nilM, ev_vaM, ev_owM, ev_parM, ev_app, ev_par, ev_par3, R.bind_ok, R.out_ok, Option.bind_some, List.getElem?_cons_succ, List.getElem?_cons_zero, List.set_cons_succ, List.set_cons_zero, List.length_cons, List.length_nil, Nat.reduceAdd, Nat.reduceEqDiff, List.getD_cons_succ, List.getD_cons_zero, decide_true, decide_false, Bool.and_true, Bool.and_self, and_self, true_and, List.all_cons, List.all_nil, Bool.not_true, Bool.not_false, if_true, Bool.true_eq_false, Bool.false_eq_true, if_false, ev_for, c1, e, c3]
  rfl
end Fx

set_option Elab.async false
set_option linter.all false
set_option maxRecDepth 100000
namespace Fx
open PySem L2 PyProof.Rows
set_option maxHeartbeats 1000000
/-! ### blocks shifted -/
def addL (b d : List Int) : List Int := List.zipWith (· + ·) b d
theorem addL_len {b d : List Int} (h : b.length = d.length) : (addL b d).length = b.length := by
  unfold addL
  rw [List.length_zipWith, h, Nat.min_self]
theorem addL_getD : ∀ {b d : List Int}, b.length = d.length → ∀ i : Nat, (addL b d).getD i 0 = b.getD i 0 + d.getD i 0
  | [], [], _, i => rfl
  | x :: b, y :: d, h, 0 => rfl
  | x :: b, y :: d, h, i + 1 => by
    have := addL_getD (b := b) (d := d) (by simpa using h) i
    unfold addL at *
    simpa using this
theorem addL_set : ∀ {b d : List Int} (i : Nat) (x y : Int), b.length = d.length → (addL b d).set i (x + y) = addL (b.set i x) (d.set i y)
  | [], [], i, x, y, _ => rfl
  | u :: b, v :: d, 0, x, y, h => rfl
  | u :: b, v :: d, i + 1, x, y, h => by
    have := addL_set (b := b) (d := d) i x y (by simpa using h)
    unfold addL at *
    simpa using this
theorem shareS_add {s : Stp} {b d : List Int} (h : b.length = d.length) : shareS s (addL b d) = shareS s b + shareS s d := by
  unfold shareS
  induction s.ps with
  | nil => rfl
  | cons p ps ih =>
    rw [List.map_cons, List.sum_cons, List.map_cons, List.sum_cons, List.map_cons, List.sum_cons, ih, addL_getD h, Int.mul_add]
    omega
/-- all its numbers are whole multiples of m -/
def Mul (m : Int) (d : List Int) : Prop := ∀ i : Nat, ∃ q, d.getD i 0 = m * q
theorem share_mul {s : Stp} {m : Int} {d : List Int} (h : Mul m d) : ∃ q, shareS s d = m * q := by
  unfold shareS
  induction s.ps with
  | nil => exact ⟨0, by simp⟩
  | cons p ps ih =>
    obtain ⟨q, e⟩ := ih
    obtain ⟨r, e2⟩ := h p.1.toNat
    refine ⟨p.2 * r + q, ?_⟩
    rw [List.map_cons, List.sum_cons, e, e2, Int.mul_add, Int.mul_left_comm]
def sh1 (s : Stp) (d : List Int) : List Int := d.set s.t.toNat (d.getD s.t.toNat 0 + shareS s d / s.o)
def shR : List Stp → List Int → List Int
  | [], d => d
  | s :: st, d => shR st (sh1 s d)
def overs : List Stp → Int
  | [] => 1
  | s :: st => s.o * overs st
theorem fo_shift {s : Stp} {b d : List Int} {m : Int} (o0 : 1 ≤ s.o) (h : b.length = d.length) (hd : Mul (s.o * m) d) : fo s (addL b d) = addL (fo s b) (sh1 s d) := by
  unfold fo sh1
  obtain ⟨q, e⟩ := share_mul (s := s) hd
  have e1 : shareI s (addL b d) = shareI s b + shareS s d / s.o := by
    unfold shareI
    rw [shareS_add h, e, Int.mul_assoc, Int.mul_ediv_cancel_left _ (by omega), show shareS s b + s.o * (m * q) + s.a = shareS s b + s.a + s.o * (m * q) by omega, Int.add_mul_ediv_left _ _ (by omega)]
  rw [← addL_set _ _ _ h, e1, addL_getD h]
  congr 1
  omega
theorem getD_set {d : List Int} {i j : Nat} {v : Int} : (d.set i v).getD j 0 = if i = j ∧ i < d.length then v else d.getD j 0 := by
  rw [List.getD_eq_getElem?_getD, List.getD_eq_getElem?_getD]
  by_cases e : i = j
  · subst e
    by_cases h : i < d.length
    · rw [List.getElem?_set_self h, if_pos ⟨rfl, h⟩]
      rfl
    · rw [if_neg (by omega), List.getElem?_eq_none (by rw [List.length_set]; omega), List.getElem?_eq_none (by omega)]
  · rw [if_neg (by omega), List.getElem?_set_ne e]
theorem sh1_mul {s : Stp} {d : List Int} {m : Int} (o0 : 1 ≤ s.o) (hd : Mul (s.o * m) d) : Mul m (sh1 s d) := fun i => by
  unfold sh1
  obtain ⟨q, e⟩ := share_mul (s := s) hd
  obtain ⟨r, e2⟩ := hd s.t.toNat
  obtain ⟨u, e3⟩ := hd i
  rw [getD_set]
  split
  · refine ⟨s.o * r + q, ?_⟩
    rw [e, e2, Int.mul_assoc s.o m q, Int.mul_ediv_cancel_left _ (by omega), Int.mul_add, Int.mul_comm s.o m, Int.mul_assoc]
  · exact ⟨s.o * u, by rw [e3, Int.mul_comm s.o m, Int.mul_assoc]⟩
theorem sh1_len {s : Stp} {d : List Int} : (sh1 s d).length = d.length := List.length_set ..
theorem forth_shift {w : Int} : ∀ (st : List Stp) (b d : List Int), (∀ s ∈ st, s.Okw w) → b.length = d.length → Mul (overs st) d → forthI st (addL b d) = addL (forthI st b) (shR st d)
  | [], b, d, _, _, _ => rfl
  | s :: st, b, d, ok, h, hd => by
    have o0 := (ok s List.mem_cons_self).o0
    rw [forthI, fo_shift o0 h hd]
    exact forth_shift st (fo s b) (sh1 s d) (fun t ht => ok t (List.mem_cons_of_mem _ ht)) (by rw [fo_len, sh1_len]; exact h) (sh1_mul o0 hd)
theorem shR_len : ∀ {st : List Stp} {d : List Int}, (shR st d).length = d.length
  | [], _ => rfl
  | s :: st, d => by rw [shR, shR_len, sh1_len]
/-- a block as the first column of rows -/
def colM (d : List Int) : Mat := fun i _ => ((d.getD i 0 : Int) : Rat)
theorem share_rat {s : Stp} {d : List Int} {m : Int} (o0 : 1 ≤ s.o) (hd : Mul (s.o * m) d) : ((shareS s d / s.o : Int) : Rat) = (s.ps.map fun p => cf s p * ((d.getD p.1.toNat 0 : Int) : Rat)).sum := by
  have ho : (s.o : Rat) ≠ 0 := by
    intro z
    have : s.o = 0 := by exact_mod_cast z
    omega
  have key : ((shareS s d : Int) : Rat) = (s.o : Rat) * (s.ps.map fun p => cf s p * ((d.getD p.1.toNat 0 : Int) : Rat)).sum := by
    unfold shareS cf
    induction s.ps with
    | nil =>
      show ((0 : Int) : Rat) = s.o * 0
      grind
    | cons p ps ih =>
      rw [List.map_cons, List.sum_cons, List.map_cons, List.sum_cons, Rat.intCast_add, ih, Rat.intCast_mul]
      grind
  obtain ⟨q, e⟩ := share_mul (s := s) hd
  rw [e, Int.mul_assoc] at key ⊢
  rw [Int.mul_ediv_cancel_left _ (by omega)]
  rw [Rat.intCast_mul] at key
  grind
theorem sh1_rop {s : Stp} {w : Int} {d : List Int} {m : Int} (ok : s.Okw w) (hl : (d.length : Int) = w) (hd : Mul (s.o * m) d) : colM (sh1 s d) = rop s (colM d) := by
  have t0 := ok.t0
  have t1 := ok.t1
  funext i j
  unfold colM sh1 rop
  rw [getD_set]
  by_cases h : i = s.t.toNat
  · subst h
    rw [if_pos ⟨rfl, by omega⟩, if_pos rfl, Rat.intCast_add, share_rat ok.o0 hd]
    unfold addP
    rw [foldl_shift (fun p => cf s p * ((d.getD p.1.toNat 0 : Int) : Rat))]
  · rw [if_neg (by omega), if_neg h]
theorem shR_rops {w : Int} : ∀ (st : List Stp) (d : List Int), (∀ s ∈ st, s.Okw w) → (d.length : Int) = w → Mul (overs st) d → colM (shR st d) = rops st (colM d)
  | [], d, _, _, _ => rfl
  | s :: st, d, ok, hl, hd => by
    have os := ok s List.mem_cons_self
    rw [shR, shR_rops st (sh1 s d) (fun t ht => ok t (List.mem_cons_of_mem _ ht)) (by rw [sh1_len]; exact hl) (sh1_mul os.o0 hd), sh1_rop os hl hd]
    rfl
theorem sumN_off (w : Nat) (i : Nat) (h : w ≤ i) (f : Nat → Rat) : sumN w (fun k => idM i k * f k) = 0 := by
  induction w with
  | zero => rfl
  | succ n ih =>
    show sumN n _ + idM i n * f n = 0
    rw [ih (by omega)]
    unfold idM
    rw [if_neg (by omega)]
    grind
theorem id_col {n : Nat} {d : List Int} (h : d.length = n) : mulM n idM (colM d) = colM d := by
  funext i j
  unfold mulM
  by_cases hi : i < n
  · exact sumN_id n i hi fun k => colM d k j
  · rw [sumN_off n i (by omega) fun k => colM d k j]
    unfold colM
    rw [List.getD_eq_getElem?_getD, List.getElem?_eq_none (by omega)]
    rfl
/-- the rows of a lift tell what a shift becomes -/
theorem led_rat {w : Int} {n : Nat} {st : List Stp} {d : List Int} (ok : ∀ s ∈ st, s.Okw w) (hn : (n : Int) = w) (hl : d.length = n) (hd : Mul (overs st) d) (i : Nat) : sumN n (fun k => rops st idM i k * ((d.getD k 0 : Int) : Rat)) = (((shR st d).getD i 0 : Int) : Rat) := by
  have e := shR_rops st d ok (by omega) hd
  have e2 := mul_rops n (colM d) st idM
  rw [id_col hl, ← e] at e2
  exact congrFun (congrFun e2 i) 0
end Fx

set_option Elab.async false
set_option linter.all false
set_option maxRecDepth 100000
namespace Fx
open PySem L2 PyProof.Rows
set_option maxHeartbeats 1000000
/-! ### rows times a block -/
theorem zip_same {α : Type} : ∀ m : List α, m.zip m = m.map fun j => (j, j)
  | [] => rfl
  | a :: m => by rw [List.zip_cons_cons, zip_same m]; rfl
theorem ints_rng {n : Nat} {d : List Int} (h : d.length = n) : d.map D.int = (List.range n).map fun k => D.int (d.getD k 0) := by
  refine List.ext_getElem? fun i => ?_
  rw [List.getElem?_map, List.getElem?_map]
  by_cases hi : i < n
  · rw [List.getElem?_range hi]
    show _ = some (D.int (d.getD i 0))
    rw [List.getD_eq_getElem?_getD, List.getElem?_eq_getElem (show i < d.length by omega)]
    rfl
  · rw [List.getElem?_eq_none (show d.length ≤ i by omega), List.getElem?_eq_none (by rw [List.length_range]; omega)]
    rfl
theorem ov_zero {V m : Nat} : Ov V m 0 := ⟨0, by grind, by have : (0 : Int) < 2 ^ m := Int.pow_pos (by decide); omega, by have : (0 : Int) < 2 ^ m := Int.pow_pos (by decide); omega⟩
theorem ov_sum {V a : Nat} {g : Nat → Rat} (h : ∀ k, Ov V a (g k)) : ∀ n, Ov V (a + n) (sumN n g)
  | 0 => ov_zero
  | n + 1 => by
    have := (ov_sum h n).add ((h n).mono (show a ≤ a + n by omega))
    exact this
theorem ov_int {m : Nat} {x : Int} (h : Sz m x) : Ov 1 m (x : Rat) := ⟨x, by grind, h.1, h.2⟩
theorem fr_int (x : Int) : fr (x : Rat) = .tup [.int x, .int 1] := rfl
theorem fr0 : fr 0 = .tup [.int 0, .int 1] := rfl
theorem led_b1_g {M : D → D → Option D} {Fn : List D → FR} {q r z : D} {c e x a1 : Int} {x0 x1 x2 x3 : Sl} (f0 : ixD q (.int 0) = some (.int c)) (f1 : ixD q (.int 1) = some (.int e)) (m1 : M (.int c) (.int x) = some (.int a1)) (el : Fn [z, .tup [.int a1, .int e]] = .ret r (.l [])) :
    asgG (callF Fn 2 (pickG 2 0 [] [0, 1]) (consF (nameF 4) (consF (tupF (consF (op2F M (op2F ixD (nameF 5) (cF (.int 0))) (nameF 6)) (consF (op2F ixD (nameF 5) (cF (.int 1))) nilF))) nilF)) nilF) (setA 4) [x0, x1, x2, x3, .va z, .va q, .va (.int x)] = .nx [x0, x1, x2, x3, .va r, .va q, .va (.int x)] := by
  simp only [ev_name, ev_c, ev_op2, ev_op1, ev_toR1, ev_toRL1, ev_nil, ev_cons, ev_opn, ev_opnN, ev_tup, ev_lst, ev_lstN, ev_new, ev_tst, ev_notT, ev_andT, ev_orT, ev_notF, ev_andF, ev_orF, ev_ifF, ev_yes, ev_iter, ev_rng1, ev_rng2, ev_rngW, ev_noP, ev_sl, ev_part, ev_next, ev_noG, ev_seq, ev_drop, ev_ret, ev_retN, ev_if, ev_asg, ev_setA, ev_nilA, ev_consA, ev_seqT, ev_seqL, ev_setN, ev_ok, ev_ioV, ev_ioU, ev_ioW, ev_owV, ev_owU, ev_own, ev_put, ev_ixOwn, ev_lenOwn, ev_setIx, ev_comp, ev_compL0, ev_compL1, ev_okC, ev_wipe1, ev_wipe0, ev_rest1, ev_rest0, ev_call, ev_callN, ev_ofr, ev_ofn, ev_ofnN, ev_mut, ev_mdl, ev_mdi, ev_io, ev_addI, ev_subI, ev_negI, ev_cmpI, ev_eqI, ev_neI, ev_eqS, ev_neS, ev_intI, ev_intB, ev_absI, ev_lenL, ev_lenT, ev_ixL, ev_ixT, ev_at0, ev_at1, ev_at2, ev_i30, ev_i31, ev_i32, ev_pk1, ev_pk2, ev_pk3, ev_pk4, ev_pkw1, ev_pkw2, ev_pkv2, ev_isI, ev_isN, ev_isB, ev_inI, ev_inN, ev_inB, ev_listT, ev_listL, ev_tupT, ev_tupL, ev_fld, ev_insAt, ev_fldOwn, ev_fldG, ev_meth, ev_make, ev_callL, ev_noLI, ev_nilL, ev_nameL, ev_lendL, ev_conL, ev_augIx, ev_putAt, ev_iadd, ev_isub, ev_revT, ev_enum, ev_zip, ev_seqDL, ev_seqDT, ev_nilM, ev_vaM, ev_owM, ev_parM, ev_app, ev_par, ev_par3, R.bind_ok, R.out_ok, Option.bind_some, List.getElem?_cons_succ, List.getElem?_cons_zero, List.set_cons_succ, List.set_cons_zero, List.length_cons, List.length_nil, Nat.reduceAdd, Nat.reduceEqDiff, List.getD_cons_succ, List.getD_cons_zero, decide_true, decide_false, Bool.and_true, Bool.and_self, and_self, true_and, List.all_cons, List.all_nil, Bool.not_true, Bool.not_false, if_true, Bool.true_eq_false, Bool.false_eq_true, if_false, f0, f1, m1, sz2, el]
theorem fr_ix0 (q : Rat) : ixD (fr q) (.int 0) = some (.int q.num) := rfl
theorem fr_ix1 (q : Rat) : ixD (fr q) (.int 1) = some (.int ((q.den : Nat) : Int)) := rfl
theorem prod_rat (q : Rat) (x : Int) : ((q.num * x : Int) : Rat) / ((q.den : Nat) : Rat) = q * (x : Rat) := by
  have h := den_ne q
  rw [Rat.intCast_mul]
  conv => rhs; rw [rat_self q]
  grind
def dotI (n : Nat) (f : Nat → Rat) (d : List Int) : Rat := sumN n fun k => f k * ((d.getD k 0 : Int) : Rat)
theorem dot_ov {V : Nat} {f : Nat → Rat} {d : List Int} (hV : 0 < V) (hf : ∀ k, Ov V 108 (f k)) (hd : ∀ k, Sz 130 (d.getD k 0)) (m : Nat) : Ov V (238 + m) (sumN m fun k => f k * ((d.getD k 0 : Int) : Rat)) := by
  refine ov_sum (fun k => ?_) m
  have := (hf k).mul (ov_int (hd k)) hV (by decide)
  rwa [Nat.mul_one] at this
theorem led_inner {n V : Nat} {f : Nat → Rat} {d : List Int} {x0 x2 y4 y5 y6 : Sl} (hl : d.length = n) (hn : n ≤ 6) (hV : 0 < V) (hV2 : (V : Int) ≤ 2 ^ 80) (hf : ∀ k, Ov V 108 (f k)) (hd : ∀ k, Sz 130 (d.getD k 0)) (q4 : Pl y4) (q5 : Pl y5) (q6 : Pl y6) :
    ∃ z5 z6, (seqG (asgG (tupF (consF (cF (.int 0)) (consF (cF (.int 1)) nilF))) (setA 4)) (seqG (forG (zipF (nameF 3) (nameF 1)) (seqA 2 (consA (setA 5) (consA (setA 6) nilA))) g__law_led_b1) nextG)) [x0, .va (blD d), x2, .va (.tup (rowD n f)), y4, y5, y6] = .nx [x0, .va (blD d), x2, .va (.tup (rowD n f)), .va (fr (dotI n f d)), z5, z6] ∧ Pl z5 ∧ Pl z6 := by
  have src : zipD (rowD n f) (d.map D.int) = (List.range n).map fun k => .tup [fr (f k), .int (d.getD k 0)] := by
    rw [ints_rng hl]
    unfold rowD
    rw [zipD_map, zip_same, List.map_map]
    rfl
  obtain ⟨s', e, z5, z6, rfl, r5, r6⟩ := forL_run (a := seqA 2 (consA (setA 5) (consA (setA 6) nilA))) (G1 := g__law_led_b1)
    (I := fun m s' => ∃ z5 z6, s' = [x0, .va (blD d), x2, .va (.tup (rowD n f)), .va (fr (sumN m fun k => f k * ((d.getD k 0 : Int) : Rat))), z5, z6] ∧ Pl z5 ∧ Pl z6)
    ((List.range n).map fun k => D.tup [fr (f k), .int (d.getD k 0)]) 0 [x0, .va (blD d), x2, .va (.tup (rowD n f)), .va (.tup [.int 0, .int 1]), y5, y6] ⟨y5, y6, rfl, q5, q6⟩ fun m e s' he i => by
      obtain ⟨z5, z6, rfl, r5, r6⟩ := i
      rw [Nat.zero_add]
      have hm : m < n := by
        have := (List.getElem?_eq_some_iff.mp he).1
        rwa [List.length_map, List.length_range] at this
      rw [List.getElem?_map, List.getElem?_range hm] at he
      cases he
      have sq := ov_sq (dot_ov hV hf hd m) hV (sz_le hV2) (by omega)
      have s1 := (ov_sq (hf m) hV (sz_le hV2) (by omega))
      have sx := hd m
      have m1 := mulW s1.1 sx (by decide)
      have el := law_add (p := sumN m fun k => f k * ((d.getD k 0 : Int) : Rat)) (c := (f m).num * d.getD m 0) (d := (f m).den) sq (den_pos _) ((s1.1.mul sx).mono (by decide)) (s1.2.mono (by decide))
      rw [prod_rat] at el
      refine ⟨[x0, .va (blD d), x2, .va (.tup (rowD n f)), .va (fr (sumN m fun k => f k * ((d.getD k 0 : Int) : Rat))), .va (fr (f m)), .va (.int (d.getD m 0))], _, ?_, .inl (led_b1_g (fr_ix0 _) (fr_ix1 _) m1 el), .va (fr (f m)), .va (.int (d.getD m 0)), rfl, Pl.va, Pl.va⟩
      simp only [ev_name, ev_c, ev_op2, ev_op1, ev_toR1, ev_toRL1, ev_nil, ev_cons, ev_opn, ev_opnN, ev_tup, ev_lst, ev_lstN, ev_new, ev_tst, ev_notT, ev_andT, ev_orT, ev_notF, ev_andF, ev_orF, ev_ifF, ev_yes, ev_iter, ev_rng1, ev_rng2, ev_rngW, ev_noP, ev_sl, ev_part, ev_next, ev_noG, ev_seq, ev_drop, ev_ret, ev_retN, ev_if, ev_asg, ev_setA, ev_nilA, ev_consA, ev_seqT, ev_seqL, ev_setN, ev_ok, ev_ioV, ev_ioU, ev_ioW, ev_owV, ev_owU, ev_own, ev_put, ev_ixOwn, ev_lenOwn, ev_setIx, ev_comp, ev_compL0, ev_compL1, ev_okC, ev_wipe1, ev_wipe0, ev_rest1, ev_rest0, ev_call, ev_callN, ev_ofr, ev_ofn, ev_ofnN, ev_mut, ev_mdl, ev_mdi, ev_io, ev_addI, ev_subI, ev_negI, ev_cmpI, ev_eqI, ev_neI, ev_eqS, ev_neS, ev_intI, ev_intB, ev_absI, ev_lenL, ev_lenT, ev_ixL, ev_ixT, ev_at0, ev_at1, ev_at2, ev_i30, ev_i31, ev_i32, ev_pk1, ev_pk2, ev_pk3, ev_pk4, ev_pkw1, ev_pkw2, ev_pkv2, ev_isI, ev_isN, ev_isB, ev_inI, ev_inN, ev_inB, ev_listT, ev_listL, ev_tupT, ev_tupL, ev_fld, ev_insAt, ev_fldOwn, ev_fldG, ev_meth, ev_make, ev_callL, ev_noLI, ev_nilL, ev_nameL, ev_lendL, ev_conL, ev_augIx, ev_putAt, ev_iadd, ev_isub, ev_revT, ev_enum, ev_zip, ev_seqDL, ev_seqDT, ev_nilM, ev_vaM, ev_owM, ev_parM, ev_app, ev_par, ev_par3, R.bind_ok, R.out_ok, Option.bind_some, List.getElem?_cons_succ, List.getElem?_cons_zero, List.set_cons_succ, List.set_cons_zero, List.length_cons, List.length_nil, Nat.reduceAdd, Nat.reduceEqDiff, List.getD_cons_succ, List.getD_cons_zero, decide_true, decide_false, Bool.and_true, Bool.and_self, and_self, true_and, List.all_cons, List.all_nil, Bool.not_true, Bool.not_false, if_true, Bool.true_eq_false, Bool.false_eq_true, if_false, r5.1, r6.1]
  rw [List.length_map, List.length_range, Nat.zero_add] at e
  refine ⟨z5, z6, ?_, r5, r6⟩
  have zs : zipF (nameF 3) (nameF 1) [x0, .va (blD d), x2, .va (.tup (rowD n f)), .va (.tup [.int 0, .int 1]), y5, y6] = .ok ((List.range n).map fun k => .tup [fr (f k), .int (d.getD k 0)]) [x0, .va (blD d), x2, .va (.tup (rowD n f)), .va (.tup [.int 0, .int 1]), y5, y6] := by
    have sd : seqD (blD d) = some (d.map D.int) := rfl
    rw [← src]
    simp only [ev_name, ev_c, ev_op2, ev_op1, ev_toR1, ev_toRL1, ev_nil, ev_cons, ev_opn, ev_opnN, ev_tup, ev_lst, ev_lstN, ev_new, ev_tst, ev_notT, ev_andT, ev_orT, ev_notF, ev_andF, ev_orF, ev_ifF, ev_yes, ev_iter, ev_rng1, ev_rng2, ev_rngW, ev_noP, ev_sl, ev_part, ev_next, ev_noG, ev_seq, ev_drop, ev_ret, ev_retN, ev_if, ev_asg, ev_setA, ev_nilA, ev_consA, ev_seqT, ev_seqL, ev_setN, ev_ok, ev_ioV, ev_ioU, ev_ioW, ev_owV, ev_owU, ev_own, ev_put, ev_ixOwn, ev_lenOwn, ev_setIx, ev_comp, ev_compL0, ev_compL1, ev_okC, ev_wipe1, ev_wipe0, ev_rest1, ev_rest0, ev_call, ev_callN, ev_ofr, ev_ofn, ev_ofnN, ev_mut, ev_mdl, ev_mdi, ev_io, ev_addI, ev_subI, ev_negI, ev_cmpI, ev_eqI, ev_neI, ev_eqS, ev_neS, ev_intI, ev_intB, ev_absI, ev_lenL, ev_lenT, ev_ixL, ev_ixT, ev_at0, ev_at1, ev_at2, ev_i30, ev_i31, ev_i32, ev_pk1, ev_pk2, ev_pk3, ev_pk4, ev_pkw1, ev_pkw2, ev_pkv2, ev_isI, ev_isN, ev_isB, ev_inI, ev_inN, ev_inB, ev_listT, ev_listL, ev_tupT, ev_tupL, ev_fld, ev_insAt, ev_fldOwn, ev_fldG, ev_meth, ev_make, ev_callL, ev_noLI, ev_nilL, ev_nameL, ev_lendL, ev_conL, ev_augIx, ev_putAt, ev_iadd, ev_isub, ev_revT, ev_enum, ev_zip, ev_seqDL, ev_seqDT, ev_nilM, ev_vaM, ev_owM, ev_parM, ev_app, ev_par, ev_par3, R.bind_ok, R.out_ok, Option.bind_some, List.getElem?_cons_succ, List.getElem?_cons_zero, List.set_cons_succ, List.set_cons_zero, List.length_cons, List.length_nil, Nat.reduceAdd, Nat.reduceEqDiff, List.getD_cons_succ, List.getD_cons_zero, decide_true, decide_false, Bool.and_true, Bool.and_self, and_self, true_and, List.all_cons, List.all_nil, Bool.not_true, Bool.not_false, if_true, Bool.true_eq_false, Bool.false_eq_true, if_false, sd]
  generalize g__law_led_b1 = B at e ⊢
  generalize zipF (nameF 3) (nameF 1) = Z at zs ⊢
  unfold dotI
  simp only [ev_name, ev_c, ev_op2, ev_op1, ev_toR1, ev_toRL1, ev_nil, ev_cons, ev_opn, ev_opnN, ev_tup, ev_lst, ev_lstN, ev_new, ev_tst, ev_notT, ev_andT, ev_orT, ev_notF, ev_andF, ev_orF, ev_ifF, ev_yes, ev_iter, ev_rng1, ev_rng2, ev_rngW, ev_noP, ev_sl, ev_part, ev_next, ev_noG, ev_seq, ev_drop, ev_ret, ev_retN, ev_if, ev_asg, ev_setA, ev_nilA, ev_consA, ev_seqT, ev_seqL, ev_setN, ev_ok, ev_ioV, ev_ioU, ev_ioW, ev_owV, ev_owU, ev_own, ev_put, ev_ixOwn, ev_lenOwn, ev_setIx, ev_comp, ev_compL0, ev_compL1, ev_okC, ev_wipe1, ev_wipe0, ev_rest1, ev_rest0, ev_call, ev_callN, ev_ofr, ev_ofn, ev_ofnN, ev_mut, ev_mdl, ev_mdi, ev_io, ev_addI, ev_subI, ev_negI, ev_cmpI, ev_eqI, ev_neI, ev_eqS, ev_neS, ev_intI, ev_intB, ev_absI, ev_lenL, ev_lenT, ev_ixL, ev_ixT, ev_at0, ev_at1, ev_at2, ev_i30, ev_i31, ev_i32, ev_pk1, ev_pk2, ev_pk3, ev_pk4, ev_pkw1, ev_pkw2, ev_pkv2, ev_isI, ev_isN, ev_isB, ev_inI, ev_inN, ev_inB, ev_listT, ev_listL, ev_tupT, ev_tupL, ev_fld, ev_insAt, ev_fldOwn, ev_fldG, ev_meth, ev_make, ev_callL, ev_noLI, ev_nilL, ev_nameL, ev_lendL, ev_conL, ev_augIx, ev_putAt, ev_iadd, ev_isub, ev_revT, ev_enum, ev_zip, ev_seqDL, ev_seqDT, ev_nilM, ev_vaM, ev_owM, ev_parM, ev_app, ev_par, ev_par3, R.bind_ok, R.out_ok, Option.bind_some, List.getElem?_cons_succ, List.getElem?_cons_zero, List.set_cons_succ, List.set_cons_zero, List.length_cons, List.length_nil, Nat.reduceAdd, Nat.reduceEqDiff, List.getD_cons_succ, List.getD_cons_zero, decide_true, decide_false, Bool.and_true, Bool.and_self, and_self, true_and, List.all_cons, List.all_nil, Bool.not_true, Bool.not_false, if_true, Bool.true_eq_false, Bool.false_eq_true, if_false, sz2, q4.1, ev_for, zs, e]
theorem led_loop {n V : Nat} {A : Mat} {d : List Int} {x0 : Sl} (hl : d.length = n) (hn : n ≤ 6) (hV : 0 < V) (hV2 : (V : Int) ≤ 2 ^ 80) (hf : OvM V 108 A) (hd : ∀ k, Sz 130 (d.getD k 0)) :
    ∃ z3 z4 z5 z6, forL (setA 3) g__law_led_b2 ((List.range n).map fun i => .tup (rowD n (A i))) [x0, .va (blD d), .ow (.l []), .un, .un, .un, .un] = .nx [x0, .va (blD d), .ow (.l ((List.range n).map fun i => fr (dotI n (A i) d))), z3, z4, z5, z6] := by
  obtain ⟨s', e, z3, z4, z5, z6, rfl, r3, r4, r5, r6⟩ := forL_run (a := setA 3) (G1 := g__law_led_b2)
    (I := fun m s' => ∃ z3 z4 z5 z6, s' = [x0, .va (blD d), .ow (.l ((List.range m).map fun i => fr (dotI n (A i) d))), z3, z4, z5, z6] ∧ Pl z3 ∧ Pl z4 ∧ Pl z5 ∧ Pl z6)
    ((List.range n).map fun i => .tup (rowD n (A i))) 0 [x0, .va (blD d), .ow (.l []), .un, .un, .un, .un] ⟨.un, .un, .un, .un, rfl, Pl.un, Pl.un, Pl.un, Pl.un⟩ fun m e s' he i => by
      obtain ⟨z3, z4, z5, z6, rfl, r3, r4, r5, r6⟩ := i
      rw [Nat.zero_add]
      have hm : m < n := by
        have := (List.getElem?_eq_some_iff.mp he).1
        rwa [List.length_map, List.length_range] at this
      rw [List.getElem?_map, List.getElem?_range hm] at he
      cases he
      obtain ⟨u5, u6, e, t5, t6⟩ := led_inner (x0 := x0) (x2 := .ow (.l ((List.range m).map fun i => fr (dotI n (A i) d)))) (f := A m) hl hn hV hV2 (hf m) hd r4 r5 r6
      refine ⟨[x0, .va (blD d), .ow (.l ((List.range m).map fun i => fr (dotI n (A i) d))), .va (.tup (rowD n (A m))), z4, z5, z6], [x0, .va (blD d), .ow (.l ((List.range (m + 1)).map fun i => fr (dotI n (A i) d))), .va (.tup (rowD n (A m))), .va (fr (dotI n (A m) d)), u5, u6], ?_, .inl ?_, _, _, _, _, rfl, Pl.va, Pl.va, t5, t6⟩
      · simp only [ev_name, ev_c, ev_op2, ev_op1, ev_toR1, ev_toRL1, ev_nil, ev_cons, ev_opn, ev_opnN, ev_tup, ev_lst, ev_lstN, ev_new, ev_tst, ev_notT, ev_andT, ev_orT, ev_notF, ev_andF, ev_orF, ev_ifF, ev_yes, ev_iter, ev_rng1, ev_rng2, ev_rngW, ev_noP, ev_sl, ev_part, ev_next, ev_noG, ev_seq, ev_drop, ev_ret, ev_retN, ev_if, ev_asg, ev_setA, ev_nilA, ev_consA, ev_seqT, ev_seqL, ev_setN, ev_ok, ev_ioV, ev_ioU, ev_ioW, ev_owV, ev_owU, ev_own, ev_put, ev_ixOwn, ev_lenOwn, ev_setIx, ev_comp, ev_compL0, ev_compL1, ev_okC, ev_wipe1, ev_wipe0, ev_rest1, ev_rest0, ev_call, ev_callN, ev_ofr, ev_ofn, ev_ofnN, ev_mut, ev_mdl, ev_mdi, ev_io, ev_addI, ev_subI, ev_negI, ev_cmpI, ev_eqI, ev_neI, ev_eqS, ev_neS, ev_intI, ev_intB, ev_absI, ev_lenL, ev_lenT, ev_ixL, ev_ixT, ev_at0, ev_at1, ev_at2, ev_i30, ev_i31, ev_i32, ev_pk1, ev_pk2, ev_pk3, ev_pk4, ev_pkw1, ev_pkw2, ev_pkv2, ev_isI, ev_isN, ev_isB, ev_inI, ev_inN, ev_inB, ev_listT, ev_listL, ev_tupT, ev_tupL, ev_fld, ev_insAt, ev_fldOwn, ev_fldG, ev_meth, ev_make, ev_callL, ev_noLI, ev_nilL, ev_nameL, ev_lendL, ev_conL, ev_augIx, ev_putAt, ev_iadd, ev_isub, ev_revT, ev_enum, ev_zip, ev_seqDL, ev_seqDT, ev_nilM, ev_vaM, ev_owM, ev_parM, ev_app, ev_par, ev_par3, R.bind_ok, R.out_ok, Option.bind_some, List.getElem?_cons_succ, List.getElem?_cons_zero, List.set_cons_succ, List.set_cons_zero, List.length_cons, List.length_nil, Nat.reduceAdd, Nat.reduceEqDiff, List.getD_cons_succ, List.getD_cons_zero, decide_true, decide_false, Bool.and_true, Bool.and_self, and_self, true_and, List.all_cons, List.all_nil, Bool.not_true, Bool.not_false, if_true, Bool.true_eq_false, Bool.false_eq_true, if_false, r3.1]
      · have ls : (((List.range m).map fun i => fr (dotI n (A i) d)).length < sizeLine) = True := eq_true (by rw [List.length_map, List.length_range, sizeLine_eq]; omega)
        unfold g__law_led_b2
        generalize g__law_led_b1 = B at e ⊢
        rw [List.range_succ, List.map_append, List.map_cons, List.map_nil]
        generalize (List.range m).map (fun i => fr (dotI n (A i) d)) = L at e ls ⊢
        generalize fr (dotI n (A m) d) = r at e ⊢
        generalize blD d = X at e ⊢
        generalize D.tup (rowD n (A m)) = Y at e ⊢
        generalize (forG (zipF (nameF 3) (nameF 1)) (seqA 2 (consA (setA 5) (consA (setA 6) nilA))) B) = F1 at e ⊢
        simp only [ev_name, ev_c, ev_op2, ev_op1, ev_toR1, ev_toRL1, ev_nil, ev_cons, ev_opn, ev_opnN, ev_tup, ev_lst, ev_lstN, ev_new, ev_tst, ev_notT, ev_andT, ev_orT, ev_notF, ev_andF, ev_orF, ev_ifF, ev_yes, ev_iter, ev_rng1, ev_rng2, ev_rngW, ev_noP, ev_sl, ev_part, ev_next, ev_noG, ev_seq, ev_drop, ev_ret, ev_retN, ev_if, ev_asg, ev_setA, ev_nilA, ev_consA, ev_seqT, ev_seqL, ev_setN, ev_ok, ev_ioV, ev_ioU, ev_ioW, ev_owV, ev_owU, ev_own, ev_put, ev_ixOwn, ev_lenOwn, ev_setIx, ev_comp, ev_compL0, ev_compL1, ev_okC, ev_wipe1, ev_wipe0, ev_rest1, ev_rest0, ev_call, ev_callN, ev_ofr, ev_ofn, ev_ofnN, ev_mut, ev_mdl, ev_mdi, ev_io, ev_addI, ev_subI, ev_negI, ev_cmpI, ev_eqI, ev_neI, ev_eqS, ev_neS, ev_intI, ev_intB, ev_absI, ev_lenL, ev_lenT, ev_ixL, ev_ixT, ev_at0, ev_at1, ev_at2, ev_i30, ev_i31, ev_i32, ev_pk1, ev_pk2, ev_pk3, ev_pk4, ev_pkw1, ev_pkw2, ev_pkv2, ev_isI, ev_isN, ev_isB, ev_inI, ev_inN, ev_inB, ev_listT, ev_listL, ev_tupT, ev_tupL, ev_fld, ev_insAt, ev_fldOwn, ev_fldG, ev_meth, ev_make, ev_callL, ev_noLI, ev_nilL, ev_nameL, ev_lendL, ev_conL, ev_augIx, ev_putAt, ev_iadd, ev_isub, ev_revT, ev_enum, ev_zip, ev_seqDL, ev_seqDT, ev_nilM, ev_vaM, ev_owM, ev_parM, ev_app, ev_par, ev_par3, R.bind_ok, R.out_ok, Option.bind_some, List.getElem?_cons_succ, List.getElem?_cons_zero, List.set_cons_succ, List.set_cons_zero, List.length_cons, List.length_nil, Nat.reduceAdd, Nat.reduceEqDiff, List.getD_cons_succ, List.getD_cons_zero, decide_true, decide_false, Bool.and_true, Bool.and_self, and_self, true_and, List.all_cons, List.all_nil, Bool.not_true, Bool.not_false, if_true, Bool.true_eq_false, Bool.false_eq_true, if_false, sz2, r4.1] at e
        cases h : F1 [x0, .va X, .ow (.l L), .va Y, .va (.tup [.int 0, .int 1]), z5, z6] with
        | nx s2 =>
          rw [h] at e
          dsimp only at e
          cases e
          simp only [ev_name, ev_c, ev_op2, ev_op1, ev_toR1, ev_toRL1, ev_nil, ev_cons, ev_opn, ev_opnN, ev_tup, ev_lst, ev_lstN, ev_new, ev_tst, ev_notT, ev_andT, ev_orT, ev_notF, ev_andF, ev_orF, ev_ifF, ev_yes, ev_iter, ev_rng1, ev_rng2, ev_rngW, ev_noP, ev_sl, ev_part, ev_next, ev_noG, ev_seq, ev_drop, ev_ret, ev_retN, ev_if, ev_asg, ev_setA, ev_nilA, ev_consA, ev_seqT, ev_seqL, ev_setN, ev_ok, ev_ioV, ev_ioU, ev_ioW, ev_owV, ev_owU, ev_own, ev_put, ev_ixOwn, ev_lenOwn, ev_setIx, ev_comp, ev_compL0, ev_compL1, ev_okC, ev_wipe1, ev_wipe0, ev_rest1, ev_rest0, ev_call, ev_callN, ev_ofr, ev_ofn, ev_ofnN, ev_mut, ev_mdl, ev_mdi, ev_io, ev_addI, ev_subI, ev_negI, ev_cmpI, ev_eqI, ev_neI, ev_eqS, ev_neS, ev_intI, ev_intB, ev_absI, ev_lenL, ev_lenT, ev_ixL, ev_ixT, ev_at0, ev_at1, ev_at2, ev_i30, ev_i31, ev_i32, ev_pk1, ev_pk2, ev_pk3, ev_pk4, ev_pkw1, ev_pkw2, ev_pkv2, ev_isI, ev_isN, ev_isB, ev_inI, ev_inN, ev_inB, ev_listT, ev_listL, ev_tupT, ev_tupL, ev_fld, ev_insAt, ev_fldOwn, ev_fldG, ev_meth, ev_make, ev_callL, ev_noLI, ev_nilL, ev_nameL, ev_lendL, ev_conL, ev_augIx, ev_putAt, ev_iadd, ev_isub, ev_revT, ev_enum, ev_zip, ev_seqDL, ev_seqDT, ev_nilM, ev_vaM, ev_owM, ev_parM, ev_app, ev_par, ev_par3, R.bind_ok, R.out_ok, Option.bind_some, List.getElem?_cons_succ, List.getElem?_cons_zero, List.set_cons_succ, List.set_cons_zero, List.length_cons, List.length_nil, Nat.reduceAdd, Nat.reduceEqDiff, List.getD_cons_succ, List.getD_cons_zero, decide_true, decide_false, Bool.and_true, Bool.and_self, and_self, true_and, List.all_cons, List.all_nil, Bool.not_true, Bool.not_false, if_true, Bool.true_eq_false, Bool.false_eq_true, if_false, sz2, r4.1, h, ls]
        | _ => rw [h] at e; cases e
  rw [List.length_map, List.length_range, Nat.zero_add] at e
  exact ⟨z3, z4, z5, z6, e⟩
theorem ledP {n V : Nat} {A : Mat} {d : List Int} (hl : d.length = n) (hn : n ≤ 6) (hV : 0 < V) (hV2 : (V : Int) ≤ 2 ^ 80) (hf : OvM V 108 A) (hd : ∀ k, Sz 130 (d.getD k 0)) : F__law_led [matT n A, blD d] = .retn ((List.range n).map fun i => fr (dotI n (A i) d)) (.l []) := by
  obtain ⟨z3, z4, z5, z6, e⟩ := led_loop (x0 := .va (matT n A)) hl hn hV hV2 hf hd
  have it : iterF (nameF 0) [.va (matT n A), .va (blD d), .ow (.l []), .un, .un, .un, .un] = .ok ((List.range n).map fun i => .tup (rowD n (A i))) [.va (matT n A), .va (blD d), .ow (.l []), .un, .un, .un, .un] := rfl
  show outF false (g__law_led [.va (matT n A), .va (blD d), .un, .un, .un, .un, .un]) = _
  unfold g__law_led
  generalize g__law_led_b2 = B at e ⊢
  generalize (List.range n).map (fun i => fr (dotI n (A i) d)) = L at e ⊢
  generalize iterF (nameF 0) = I at it ⊢
  simp only [ev_name, ev_c, ev_op2, ev_op1, ev_toR1, ev_toRL1, ev_nil, ev_cons, ev_opn, ev_opnN, ev_tup, ev_lst, ev_lstN, ev_new, ev_tst, ev_notT, ev_andT, ev_orT, ev_notF, ev_andF, ev_orF, ev_ifF, ev_yes, ev_iter, ev_rng1, ev_rng2, ev_rngW, ev_noP, ev_sl, ev_part, ev_next, ev_noG, ev_seq, ev_drop, ev_ret, ev_retN, ev_if, ev_asg, ev_setA, ev_nilA, ev_consA, ev_seqT, ev_seqL, ev_setN, ev_ok, ev_ioV, ev_ioU, ev_ioW, ev_owV, ev_owU, ev_own, ev_put, ev_ixOwn, ev_lenOwn, ev_setIx, ev_comp, ev_compL0, ev_compL1, ev_okC, ev_wipe1, ev_wipe0, ev_rest1, ev_rest0, ev_call, ev_callN, ev_ofr, ev_ofn, ev_ofnN, ev_mut, ev_mdl, ev_mdi, ev_io, ev_addI, ev_subI, ev_negI, ev_cmpI, ev_eqI, ev_neI, ev_eqS, ev_neS, ev_intI, ev_intB, ev_absI, ev_lenL, ev_lenT, ev_ixL, ev_ixT, ev_at0, ev_at1, ev_at2, ev_i30, ev_i31, ev_i32, ev_pk1, ev_pk2, ev_pk3, ev_pk4, ev_pkw1, ev_pkw2, ev_pkv2, ev_isI, ev_isN, ev_isB, ev_inI, ev_inN, ev_inB, ev_listT, ev_listL, ev_tupT, ev_tupL, ev_fld, ev_insAt, ev_fldOwn, ev_fldG, ev_meth, ev_make, ev_callL, ev_noLI, ev_nilL, ev_nameL, ev_lendL, ev_conL, ev_augIx, ev_putAt, ev_iadd, ev_isub, ev_revT, ev_enum, ev_zip, ev_seqDL, ev_seqDT, ev_nilM, ev_vaM, ev_owM, ev_parM, ev_app, ev_par, ev_par3, R.bind_ok, R.out_ok, Option.bind_some, List.getElem?_cons_succ, List.getElem?_cons_zero, List.set_cons_succ, List.set_cons_zero, List.length_cons, List.length_nil, Nat.reduceAdd, Nat.reduceEqDiff, List.getD_cons_succ, List.getD_cons_zero, decide_true, decide_false, Bool.and_true, Bool.and_self, and_self, true_and, List.all_cons, List.all_nil, Bool.not_true, Bool.not_false, if_true, Bool.true_eq_false, Bool.false_eq_true, if_false, ev_for, it, e, sz0]
  rfl
end Fx

set_option Elab.async false
set_option linter.all false
set_option maxRecDepth 100000
namespace Fx
open PySem L2 PyProof.Rows
set_option maxHeartbeats 1000000
/-! ### lists that == compares -/
theorem laDL_map {α : Type} {f : α → D} : ∀ {xs : List α}, (∀ x ∈ xs, laD (f x) = true) → laDL (xs.map f) = true
  | [], _ => rfl
  | x :: xs, h => by
    rw [List.map_cons]
    unfold laDL
    rw [h x List.mem_cons_self, laDL_map fun y hy => h y (List.mem_cons_of_mem _ hy)]
    rfl
theorem shDpL_map {α : Type} {f : α → D} {m : Nat} : ∀ {xs : List α}, (∀ x ∈ xs, shDp (f x) ≤ m) → shDpL (xs.map f) ≤ m
  | [], _ => Nat.zero_le _
  | x :: xs, h => by
    rw [List.map_cons]
    unfold shDpL
    exact Nat.max_le.mpr ⟨h x List.mem_cons_self, shDpL_map fun y hy => h y (List.mem_cons_of_mem _ hy)⟩
/-! ### the scale -/
theorem overs_sz {w : Int} : ∀ (st : List Stp), (∀ s ∈ st, s.Okw w) → Sz (4 * st.length) (overs st) ∧ 1 ≤ overs st
  | [], _ => ⟨⟨by decide, by decide⟩, by decide⟩
  | s :: st, ok => by
    have o0 := (ok s List.mem_cons_self).o0
    have o1 := (ok s List.mem_cons_self).o1
    obtain ⟨h1, h2⟩ := overs_sz st fun t ht => ok t (List.mem_cons_of_mem _ ht)
    have so : Sz 4 s.o := ⟨by show -16 ≤ s.o; omega, by show s.o ≤ 16; omega⟩
    refine ⟨?_, ?_⟩
    · rw [List.length_cons, show 4 * (st.length + 1) = 4 + 4 * st.length by omega]
      exact so.mul h1
    · show 1 ≤ s.o * overs st
      have := Int.mul_le_mul o0 h2 (by decide) (by omega)
      omega
theorem scale_g {M : D → D → Option D} {d : D} {a o r : Int} {x0 x1 x2 x3 x6 x7 x8 x9 x10 x11 x12 x13 : Sl} (f3 : ixD d (.int 3) = some (.int o)) (m : M (.int a) (.int o) = some (.int r)) :
    asgG (op2F M (nameF 4) (op2F ixD (nameF 5) (cF (.int 3)))) (setA 4) [x0, x1, x2, x3, .va (.int a), .va d, x6, x7, x8, x9, x10, x11, x12, x13] = .nx [x0, x1, x2, x3, .va (.int r), .va d, x6, x7, x8, x9, x10, x11, x12, x13] := by
  simp only [ev_name, ev_c, ev_op2, ev_op1, ev_toR1, ev_toRL1, ev_nil, ev_cons, ev_opn, ev_opnN, ev_tup, ev_lst, ev_lstN, ev_new, ev_tst, ev_notT, ev_andT, ev_orT, ev_notF, ev_andF, ev_orF, ev_ifF, ev_yes, ev_iter, ev_rng1, ev_rng2, ev_rngW, ev_noP, ev_sl, ev_part, ev_next, ev_noG, ev_seq, ev_drop, ev_ret, ev_retN, ev_if, ev_asg, ev_setA, ev_nilA, ev_consA, ev_seqT, ev_seqL, ev_setN, ev_ok, ev_ioV, ev_ioU, ev_ioW, ev_owV, ev_owU, ev_own, ev_put, ev_ixOwn, ev_lenOwn, ev_setIx, ev_comp, ev_compL0, ev_compL1, ev_okC, ev_wipe1, ev_wipe0, ev_rest1, ev_rest0, ev_call, ev_callN, ev_ofr, ev_ofn, ev_ofnN, ev_mut, ev_mdl, ev_mdi, ev_io, ev_addI, ev_subI, ev_negI, ev_cmpI, ev_eqI, ev_neI, ev_eqS, ev_neS, ev_intI, ev_intB, ev_absI, ev_lenL, ev_lenT, ev_ixL, ev_ixT, ev_at0, ev_at1, ev_at2, ev_i30, ev_i31, ev_i32, ev_pk1, ev_pk2, ev_pk3, ev_pk4, ev_pkw1, ev_pkw2, ev_pkv2, ev_isI, ev_isN, ev_isB, ev_inI, ev_inN, ev_inB, ev_listT, ev_listL, ev_tupT, ev_tupL, ev_fld, ev_insAt, ev_fldOwn, ev_fldG, ev_meth, ev_make, ev_callL, ev_noLI, ev_nilL, ev_nameL, ev_lendL, ev_conL, ev_augIx, ev_putAt, ev_iadd, ev_isub, ev_revT, ev_enum, ev_zip, ev_seqDL, ev_seqDT, ev_nilM, ev_vaM, ev_owM, ev_parM, ev_app, ev_par, ev_par3, R.bind_ok, R.out_ok, Option.bind_some, List.getElem?_cons_succ, List.getElem?_cons_zero, List.set_cons_succ, List.set_cons_zero, List.length_cons, List.length_nil, Nat.reduceAdd, Nat.reduceEqDiff, List.getD_cons_succ, List.getD_cons_zero, decide_true, decide_false, Bool.and_true, Bool.and_self, and_self, true_and, List.all_cons, List.all_nil, Bool.not_true, Bool.not_false, if_true, Bool.true_eq_false, Bool.false_eq_true, if_false, f3, m]
theorem scale_loop {w : Int} {x0 x1 x2 x3 x6 x7 x8 x9 x10 x11 x12 x13 : Sl} : ∀ (st : List Stp) (a : Int) (k : Nat) (y5 : Sl), (∀ s ∈ st, s.Okw w) → Sz k a → k + 4 * st.length ≤ 1000 → Pl y5 →
    ∃ z5, forL (setA 5) g__law_shifts_right_b1 (st.map Stp.d) [x0, x1, x2, x3, .va (.int a), y5, x6, x7, x8, x9, x10, x11, x12, x13] = .nx [x0, x1, x2, x3, .va (.int (a * overs st)), z5, x6, x7, x8, x9, x10, x11, x12, x13] ∧ Pl z5
  | [], a, k, y5, _, _, _, q => ⟨y5, by show Out.nx _ = Out.nx _; rw [show a * overs [] = a from Int.mul_one a], q⟩
  | s :: st, a, k, y5, ok, h, hk, q => by
    have o0 := (ok s List.mem_cons_self).o0
    have o1 := (ok s List.mem_cons_self).o1
    have so : Sz 4 s.o := ⟨by show -16 ≤ s.o; omega, by show s.o ≤ 16; omega⟩
    rw [List.length_cons] at hk
    obtain ⟨z5, e, r⟩ := scale_loop (x0 := x0) (x1 := x1) (x2 := x2) (x3 := x3) (x6 := x6) (x7 := x7) (x8 := x8) (x9 := x9) (x10 := x10) (x11 := x11) (x12 := x12) (x13 := x13) st (a * s.o) (k + 4) (.va s.d) (fun t ht => ok t (List.mem_cons_of_mem _ ht)) (h.mul so) (by omega) Pl.va
    refine ⟨z5, ?_, r⟩
    have ea : setA 5 s.d [x0, x1, x2, x3, .va (.int a), y5, x6, x7, x8, x9, x10, x11, x12, x13] = some [x0, x1, x2, x3, .va (.int a), .va s.d, x6, x7, x8, x9, x10, x11, x12, x13] := by simp only [ev_name, ev_c, ev_op2, ev_op1, ev_toR1, ev_toRL1, ev_nil, ev_cons, ev_opn, ev_opnN, ev_tup, ev_lst, ev_lstN, ev_new, ev_tst, ev_notT, ev_andT, ev_orT, ev_notF, ev_andF, ev_orF, ev_ifF, ev_yes, ev_iter, ev_rng1, ev_rng2, ev_rngW, ev_noP, ev_sl, ev_part, ev_next, ev_noG, ev_seq, ev_drop, ev_ret, ev_retN, ev_if, ev_asg, ev_setA, ev_nilA, ev_consA, ev_seqT, ev_seqL, ev_setN, ev_ok, ev_ioV, ev_ioU, ev_ioW, ev_owV, ev_owU, ev_own, ev_put, ev_ixOwn, ev_lenOwn, ev_setIx, ev_comp, ev_compL0, ev_compL1, ev_okC, ev_wipe1, ev_wipe0, ev_rest1, ev_rest0, ev_call, ev_callN, ev_ofr, ev_ofn, ev_ofnN, ev_mut, ev_mdl, ev_mdi, ev_io, ev_addI, ev_subI, ev_negI, ev_cmpI, ev_eqI, ev_neI, ev_eqS, ev_neS, ev_intI, ev_intB, ev_absI, ev_lenL, ev_lenT, ev_ixL, ev_ixT, ev_at0, ev_at1, ev_at2, ev_i30, ev_i31, ev_i32, ev_pk1, ev_pk2, ev_pk3, ev_pk4, ev_pkw1, ev_pkw2, ev_pkv2, ev_isI, ev_isN, ev_isB, ev_inI, ev_inN, ev_inB, ev_listT, ev_listL, ev_tupT, ev_tupL, ev_fld, ev_insAt, ev_fldOwn, ev_fldG, ev_meth, ev_make, ev_callL, ev_noLI, ev_nilL, ev_nameL, ev_lendL, ev_conL, ev_augIx, ev_putAt, ev_iadd, ev_isub, ev_revT, ev_enum, ev_zip, ev_seqDL, ev_seqDT, ev_nilM, ev_vaM, ev_owM, ev_parM, ev_app, ev_par, ev_par3, R.bind_ok, R.out_ok, Option.bind_some, List.getElem?_cons_succ, List.getElem?_cons_zero, List.set_cons_succ, List.set_cons_zero, List.length_cons, List.length_nil, Nat.reduceAdd, Nat.reduceEqDiff, List.getD_cons_succ, List.getD_cons_zero, decide_true, decide_false, Bool.and_true, Bool.and_self, and_self, true_and, List.all_cons, List.all_nil, Bool.not_true, Bool.not_false, if_true, Bool.true_eq_false, Bool.false_eq_true, if_false, q.1]
    have eb : g__law_shifts_right_b1 [x0, x1, x2, x3, .va (.int a), .va s.d, x6, x7, x8, x9, x10, x11, x12, x13] = _ := scale_g (d := s.d) (o := s.o) (r := a * s.o) rfl (mulW h so (by omega))
    rw [List.map_cons, forL, ea]
    dsimp only
    rw [eb]
    dsimp only
    rw [e, show a * s.o * overs st = a * overs (s :: st) from Int.mul_assoc a s.o (overs st)]
/-! ### a shift drawn -/
theorem q24 : powD (.int 10) (.int 24) = some (.int 1000000000000000000000000) := rfl
theorem pickmul_g {M : D → D → Option D} {Fp Fd : List D → FR} {Q : D → D → Option D} {B sc t a r : Int} {P P1 P2 : List D} {x1 x2 x3 x5 x6 x7 x8 x9 x10 x11 x12 x13 : Sl} (m : M (.int sc) (.int t) = some (.int a)) (q : Q (.int 10) (.int 24) = some (.int B)) (e1 : Fd [.lst P, .int B] = .ret (.int r) (.l P1)) (e2 : Fp [.lst P1, .lst [.int 0, .int 1, .int (-1), .int r]] = .ret (.int t) (.l P2)) :
    op2F M (nameF 4) (callIoF Fp 2 0 (consF (lstF (consF (cF (.int 0)) (consF (cF (.int 1)) (consF (op1F negD (cF (.int 1))) (consF (callIoF Fd 2 0 (consF (op2F Q (cF (.int 10)) (cF (.int 24))) nilF)) nilF))))) nilF)) [.io (.l P), x1, x2, x3, .va (.int sc), x5, x6, x7, x8, x9, x10, x11, x12, x13] = .ok (.int a) [.io (.l P2), x1, x2, x3, .va (.int sc), x5, x6, x7, x8, x9, x10, x11, x12, x13] := by
  simp only [ev_name, ev_c, ev_op2, ev_op1, ev_toR1, ev_toRL1, ev_nil, ev_cons, ev_opn, ev_opnN, ev_tup, ev_lst, ev_lstN, ev_new, ev_tst, ev_notT, ev_andT, ev_orT, ev_notF, ev_andF, ev_orF, ev_ifF, ev_yes, ev_iter, ev_rng1, ev_rng2, ev_rngW, ev_noP, ev_sl, ev_part, ev_next, ev_noG, ev_seq, ev_drop, ev_ret, ev_retN, ev_if, ev_asg, ev_setA, ev_nilA, ev_consA, ev_seqT, ev_seqL, ev_setN, ev_ok, ev_ioV, ev_ioU, ev_ioW, ev_owV, ev_owU, ev_own, ev_put, ev_ixOwn, ev_lenOwn, ev_setIx, ev_comp, ev_compL0, ev_compL1, ev_okC, ev_wipe1, ev_wipe0, ev_rest1, ev_rest0, ev_call, ev_callN, ev_ofr, ev_ofn, ev_ofnN, ev_mut, ev_mdl, ev_mdi, ev_io, ev_addI, ev_subI, ev_negI, ev_cmpI, ev_eqI, ev_neI, ev_eqS, ev_neS, ev_intI, ev_intB, ev_absI, ev_lenL, ev_lenT, ev_ixL, ev_ixT, ev_at0, ev_at1, ev_at2, ev_i30, ev_i31, ev_i32, ev_pk1, ev_pk2, ev_pk3, ev_pk4, ev_pkw1, ev_pkw2, ev_pkv2, ev_isI, ev_isN, ev_isB, ev_inI, ev_inN, ev_inB, ev_listT, ev_listL, ev_tupT, ev_tupL, ev_fld, ev_insAt, ev_fldOwn, ev_fldG, ev_meth, ev_make, ev_callL, ev_noLI, ev_nilL, ev_nameL, ev_lendL, ev_conL, ev_augIx, ev_putAt, ev_iadd, ev_isub, ev_revT, ev_enum, ev_zip, ev_seqDL, ev_seqDT, ev_nilM, ev_vaM, ev_owM, ev_parM, ev_app, ev_par, ev_par3, R.bind_ok, R.out_ok, Option.bind_some, List.getElem?_cons_succ, List.getElem?_cons_zero, List.set_cons_succ, List.set_cons_zero, List.length_cons, List.length_nil, Nat.reduceAdd, Nat.reduceEqDiff, List.getD_cons_succ, List.getD_cons_zero, decide_true, decide_false, Bool.and_true, Bool.and_self, and_self, true_and, List.all_cons, List.all_nil, Bool.not_true, Bool.not_false, if_true, Bool.true_eq_false, Bool.false_eq_true, if_false, q, e1, e2, m, sz4]
theorem shifts {b : Nat} {P : List D} {w sc : Int} {x2 x3 x5 x6 x7 x8 x9 x10 x12 x13 y11 : Sl} (h : Pen b P) (w0 : 0 ≤ w) (w6 : w ≤ 6) (hb : b < 2 ^ 18) (hsc : Sz 48 sc) (q : Pl y11) :
    ∃ (ts : List Int) (P' : List D), compN (rng1F (nameF 1)) [11] (setA 11) yesT (op2F mulD (nameF 4) (callIoF F__law_pick 2 0 (consF (lstF (consF (cF (.int 0)) (consF (cF (.int 1)) (consF (op1F negD (cF (.int 1))) (consF (callIoF F__law_draw 2 0 (consF (op2F powD (cF (.int 10)) (cF (.int 24))) nilF)) nilF))))) nilF))) [.io (.l P), .va (.int w), x2, x3, .va (.int sc), x5, x6, x7, x8, x9, x10, y11, x12, x13] = .ok ((ts.map fun t => sc * t).map D.int) [.io (.l P'), .va (.int w), x2, x3, .va (.int sc), x5, x6, x7, x8, x9, x10, y11, x12, x13] ∧ ts.length = w.toNat ∧ (∀ t ∈ ts, Sz 80 t) ∧ Pen (b + 12) P' := by
  obtain ⟨ys, s', e2, hl, hY, P', y3, rfl, q3, hP⟩ := compL_run (vs := [11]) (a := setA 11) (u := yesT) (f := (op2F mulD (nameF 4) (callIoF F__law_pick 2 0 (consF (lstF (consF (cF (.int 0)) (consF (cF (.int 1)) (consF (op1F negD (cF (.int 1))) (consF (callIoF F__law_draw 2 0 (consF (op2F powD (cF (.int 10)) (cF (.int 24))) nilF)) nilF))))) nilF))))
    (I := fun m s' => ∃ P' y3, s' = [.io (.l P'), .va (.int w), x2, x3, .va (.int sc), x5, x6, x7, x8, x9, x10, y3, x12, x13] ∧ Pl y3 ∧ Pen (b + 2 * m) P') (Y := fun _ y => ∃ t : Int, y = .int (sc * t) ∧ Sz 80 t) (rngD 0 w) 0 [.io (.l P), .va (.int w), x2, x3, .va (.int sc), x5, x6, x7, x8, x9, x10, y11, x12, x13] ⟨P, y11, rfl, q, h⟩ fun m d s' e i => by
      obtain ⟨P', y3, rfl, q3, hP⟩ := i
      have hm : m < 6 := by
        have := (List.getElem?_eq_some_iff.mp e).1
        rw [rngD_length] at this
        omega
      obtain ⟨r, P1, e1, r0, r1, g1⟩ := draw (m := 1000000000000000000000000) hP (by omega) (by decide) (by decide)
      obtain ⟨d2, P2, e2, m2, g2⟩ := pick (xs := [.int 0, .int 1, .int (-1), .int r]) g1 (by omega) (by simp) (by simp)
      obtain ⟨t, rfl, ht⟩ : ∃ t : Int, d2 = .int t ∧ Sz 80 t := by
        simp only [List.mem_cons, List.not_mem_nil, or_false] at m2
        rcases m2 with rfl | rfl | rfl | rfl
        · exact ⟨_, rfl, by decide, by decide⟩
        · exact ⟨_, rfl, by decide, by decide⟩
        · exact ⟨_, rfl, by decide, by decide⟩
        · exact ⟨_, rfl, by show -1208925819614629174706176 ≤ r; omega, by show r ≤ 1208925819614629174706176; omega⟩
      have ml := mulW hsc ht (by decide)
      refine ⟨[.io (.l P'), .va (.int w), x2, x3, .va (.int sc), x5, x6, x7, x8, x9, x10, .va d, x12, x13], [.io (.l P'), .va (.int w), x2, x3, .va (.int sc), x5, x6, x7, x8, x9, x10, .va d, x12, x13], [.io (.l P2), .va (.int w), x2, x3, .va (.int sc), x5, x6, x7, x8, x9, x10, .va d, x12, x13], .int (sc * t), rfl, rfl, pickmul_g ml q24 e1 e2, ⟨t, rfl, ht⟩, P2, .va d, rfl, Pl.va, g2.mono (by omega)⟩
  have hlen : (rngD 0 w).length = w.toNat := by rw [rngD_length]; congr 1; omega
  obtain ⟨ts, rfl, hs⟩ := list_of (f := fun t : Int => D.int (sc * t)) (all_of (m := 0) fun j y e => hY j y e)
  rw [List.length_map, hlen] at hl
  refine ⟨ts, P', ?_, hl, hs, hP.mono (by rw [hlen]; omega)⟩
  rw [List.map_map]
  show _ = R.ok (ts.map fun t : Int => D.int (sc * t)) _
  have sm := sm_small w0 (show w ≤ 5000 by omega)
  have rs := rng_small (show w ≤ 5000 by omega)
  generalize (op2F mulD (nameF 4) (callIoF F__law_pick 2 0 (consF (lstF (consF (cF (.int 0)) (consF (cF (.int 1)) (consF (op1F negD (cF (.int 1))) (consF (callIoF F__law_draw 2 0 (consF (op2F powD (cF (.int 10)) (cF (.int 24))) nilF)) nilF))))) nilF))) = F at e2 ⊢
  generalize ts.map (fun t : Int => D.int (sc * t)) = L at e2 ⊢
  simp only [ev_name, ev_c, ev_op2, ev_op1, ev_toR1, ev_toRL1, ev_nil, ev_cons, ev_opn, ev_opnN, ev_tup, ev_lst, ev_lstN, ev_new, ev_tst, ev_notT, ev_andT, ev_orT, ev_notF, ev_andF, ev_orF, ev_ifF, ev_yes, ev_iter, ev_rng1, ev_rng2, ev_rngW, ev_noP, ev_sl, ev_part, ev_next, ev_noG, ev_seq, ev_drop, ev_ret, ev_retN, ev_if, ev_asg, ev_setA, ev_nilA, ev_consA, ev_seqT, ev_seqL, ev_setN, ev_ok, ev_ioV, ev_ioU, ev_ioW, ev_owV, ev_owU, ev_own, ev_put, ev_ixOwn, ev_lenOwn, ev_setIx, ev_comp, ev_compL0, ev_compL1, ev_okC, ev_wipe1, ev_wipe0, ev_rest1, ev_rest0, ev_call, ev_callN, ev_ofr, ev_ofn, ev_ofnN, ev_mut, ev_mdl, ev_mdi, ev_io, ev_addI, ev_subI, ev_negI, ev_cmpI, ev_eqI, ev_neI, ev_eqS, ev_neS, ev_intI, ev_intB, ev_absI, ev_lenL, ev_lenT, ev_ixL, ev_ixT, ev_at0, ev_at1, ev_at2, ev_i30, ev_i31, ev_i32, ev_pk1, ev_pk2, ev_pk3, ev_pk4, ev_pkw1, ev_pkw2, ev_pkv2, ev_isI, ev_isN, ev_isB, ev_inI, ev_inN, ev_inB, ev_listT, ev_listL, ev_tupT, ev_tupL, ev_fld, ev_insAt, ev_fldOwn, ev_fldG, ev_meth, ev_make, ev_callL, ev_noLI, ev_nilL, ev_nameL, ev_lendL, ev_conL, ev_augIx, ev_putAt, ev_iadd, ev_isub, ev_revT, ev_enum, ev_zip, ev_seqDL, ev_seqDT, ev_nilM, ev_vaM, ev_owM, ev_parM, ev_app, ev_par, ev_par3, R.bind_ok, R.out_ok, Option.bind_some, List.getElem?_cons_succ, List.getElem?_cons_zero, List.set_cons_succ, List.set_cons_zero, List.length_cons, List.length_nil, Nat.reduceAdd, Nat.reduceEqDiff, List.getD_cons_succ, List.getD_cons_zero, decide_true, decide_false, Bool.and_true, Bool.and_self, and_self, true_and, List.all_cons, List.all_nil, Bool.not_true, Bool.not_false, if_true, Bool.true_eq_false, Bool.false_eq_true, if_false, sm, rs, q.2, e2]
/-! ### one shift tried -/
theorem shift_b2_g {X7 X8 X9 X10 X11 : F D} {d7 d8 d9 d10 d11 : D} {x0 x0' x0'' x1 x2 x3 x4 x5 x6 y7 y8 y9 y10 y11 y12 y13 : Sl} (q7 : Pl y7) (q8 : Pl y8) (q9 : Pl y9) (q10 : Pl y10)
    (e7 : X7 [x0, x1, x2, x3, x4, x5, x6, y7, y8, y9, y10, y11, y12, y13] = .ok d7 [x0', x1, x2, x3, x4, x5, x6, y7, y8, y9, y10, y11, y12, y13])
    (e8 : X8 [x0', x1, x2, x3, x4, x5, x6, .va d7, y8, y9, y10, y11, y12, y13] = .ok d8 [x0'', x1, x2, x3, x4, x5, x6, .va d7, y8, y9, y10, y11, y12, y13])
    (e9 : X9 [x0'', x1, x2, x3, x4, x5, x6, .va d7, .va d8, y9, y10, y11, y12, y13] = .ok d9 [x0'', x1, x2, x3, x4, x5, x6, .va d7, .va d8, y9, y10, y11, y12, y13])
    (e10 : X10 [x0'', x1, x2, x3, x4, x5, x6, .va d7, .va d8, .va d9, y10, y11, y12, y13] = .ok d10 [x0'', x1, x2, x3, x4, x5, x6, .va d7, .va d8, .va d9, y10, y11, y12, y13])
    (e11 : X11 [x0'', x1, x2, x3, x4, x5, x6, .va d7, .va d8, .va d9, .va d10, y11, y12, y13] = .ok d11 [x0'', x1, x2, x3, x4, x5, x6, .va d7, .va d8, .va d9, .va d10, y11, y12, y13])
    (en : neD d11 d10 = some (.bl false)) :
    (seqG (asgG X7 (setA 7)) (seqG (asgG X8 (setA 8)) (seqG (asgG X9 (setA 9)) (seqG (asgG X10 (setA 10)) (ifG (tstF (op2F neD X11 (nameF 10))) (retG (cF (.bl false))) nextG))))) [x0, x1, x2, x3, x4, x5, x6, y7, y8, y9, y10, y11, y12, y13] = .nx [x0'', x1, x2, x3, x4, x5, x6, .va d7, .va d8, .va d9, .va d10, y11, y12, y13] := by
  simp only [ev_name, ev_c, ev_op2, ev_op1, ev_toR1, ev_toRL1, ev_nil, ev_cons, ev_opn, ev_opnN, ev_tup, ev_lst, ev_lstN, ev_new, ev_tst, ev_notT, ev_andT, ev_orT, ev_notF, ev_andF, ev_orF, ev_ifF, ev_yes, ev_iter, ev_rng1, ev_rng2, ev_rngW, ev_noP, ev_sl, ev_part, ev_next, ev_noG, ev_seq, ev_drop, ev_ret, ev_retN, ev_if, ev_asg, ev_setA, ev_nilA, ev_consA, ev_seqT, ev_seqL, ev_setN, ev_ok, ev_ioV, ev_ioU, ev_ioW, ev_owV, ev_owU, ev_own, ev_put, ev_ixOwn, ev_lenOwn, ev_setIx, ev_comp, ev_compL0, ev_compL1, ev_okC, ev_wipe1, ev_wipe0, ev_rest1, ev_rest0, ev_call, ev_callN, ev_ofr, ev_ofn, ev_ofnN, ev_mut, ev_mdl, ev_mdi, ev_io, ev_addI, ev_subI, ev_negI, ev_cmpI, ev_eqI, ev_neI, ev_eqS, ev_neS, ev_intI, ev_intB, ev_absI, ev_lenL, ev_lenT, ev_ixL, ev_ixT, ev_at0, ev_at1, ev_at2, ev_i30, ev_i31, ev_i32, ev_pk1, ev_pk2, ev_pk3, ev_pk4, ev_pkw1, ev_pkw2, ev_pkv2, ev_isI, ev_isN, ev_isB, ev_inI, ev_inN, ev_inB, ev_listT, ev_listL, ev_tupT, ev_tupL, ev_fld, ev_insAt, ev_fldOwn, ev_fldG, ev_meth, ev_make, ev_callL, ev_noLI, ev_nilL, ev_nameL, ev_lendL, ev_conL, ev_augIx, ev_putAt, ev_iadd, ev_isub, ev_revT, ev_enum, ev_zip, ev_seqDL, ev_seqDT, ev_nilM, ev_vaM, ev_owM, ev_parM, ev_app, ev_par, ev_par3, R.bind_ok, R.out_ok, Option.bind_some, List.getElem?_cons_succ, List.getElem?_cons_zero, List.set_cons_succ, List.set_cons_zero, List.length_cons, List.length_nil, Nat.reduceAdd, Nat.reduceEqDiff, List.getD_cons_succ, List.getD_cons_zero, decide_true, decide_false, Bool.and_true, Bool.and_self, and_self, true_and, List.all_cons, List.all_nil, Bool.not_true, Bool.not_false, if_true, Bool.true_eq_false, Bool.false_eq_true, if_false, e7, e8, e9, e10, e11, en, q7.1, q8.1, q9.1, q10.1]
end Fx

set_option Elab.async false
set_option linter.all false
set_option maxRecDepth 100000
namespace Fx
open PySem L2 PyProof.Rows
set_option maxHeartbeats 1000000
theorem getD_sz {k : Nat} {ds : List Int} (h : ∀ x ∈ ds, Sz k x) (i : Nat) : Sz k (ds.getD i 0) := by
  have p : (0 : Int) < 2 ^ k := Int.pow_pos (by decide)
  rw [List.getD_eq_getElem?_getD]
  cases e : ds[i]? with
  | none => exact ⟨by show _ ≤ (0 : Int); omega, by show (0 : Int) ≤ _; omega⟩
  | some x => exact h x (List.mem_of_getElem? e)
theorem mul_map {sc : Int} (ts : List Int) : Mul sc (ts.map fun t => sc * t) := fun i => by
  refine ⟨ts.getD i 0, ?_⟩
  rw [List.getD_eq_getElem?_getD, List.getD_eq_getElem?_getD, List.getElem?_map]
  cases ts[i]? with
  | none => show (0 : Int) = sc * 0; rw [Int.mul_zero]
  | some x => rfl
theorem zip2 {n : Nat} {a b : List Int} (ha : a.length = n) (hb : b.length = n) : zipD (a.map D.int) (b.map D.int) = (List.range n).map fun k => .tup [.int (a.getD k 0), .int (b.getD k 0)] := by
  rw [ints_rng ha, ints_rng hb, zipD_map, zip_same, List.map_map]
  rfl
theorem sum_comp {n : Nat} {a b : List Int} {x0 x1 x2 x3 x4 x5 x6 x9 x10 x11 y12 y13 : Sl} (ha : a.length = n) (hb : b.length = n) (hn : n ≤ 6) (q12 : Pl y12) (q13 : Pl y13) :
    compN (zipF (nameF 7) (nameF 8)) [12, 13] (seqA 2 (consA (setA 12) (consA (setA 13) nilA))) yesT (op2F addD (nameF 12) (nameF 13)) [x0, x1, x2, x3, x4, x5, x6, .va (blD a), .va (blD b), x9, x10, x11, y12, y13] = .ok ((addL a b).map D.int) [x0, x1, x2, x3, x4, x5, x6, .va (blD a), .va (blD b), x9, x10, x11, y12, y13] := by
  have hl : (addL a b).length = n := by rw [addL_len (by omega)]; exact ha
  rw [ints_rng hl]
  have hv : ([12, 13] : List Nat).all (okC [x0, x1, x2, x3, x4, x5, x6, .va (blD a), .va (blD b), x9, x10, x11, y12, y13]) = true := by
    simp only [List.all_cons, List.all_nil, Bool.and_true, ev_okC, List.getElem?_cons_succ, List.getElem?_cons_zero, q12.2, q13.2, Bool.not_false, Bool.and_self]
  refine compN_src (fun k : Nat => D.tup [.int (a.getD k 0), .int (b.getD k 0)]) (fun k : Nat => D.int ((addL a b).getD k 0)) (s1 := [x0, x1, x2, x3, x4, x5, x6, .va (blD a), .va (blD b), x9, x10, x11, y12, y13]) (xs := List.range n) ?_ (by rw [List.length_range, sizeLine_eq]; omega) hv (fun s' => ∃ y z, s' = [x0, x1, x2, x3, x4, x5, x6, .va (blD a), .va (blD b), x9, x10, x11, y, z]) ⟨_, _, rfl⟩ (fun s' ⟨y, z, e⟩ => by rw [e]; rfl) ?_
  · rw [← zip2 ha hb]
    have s1 : seqD (blD a) = some (a.map D.int) := rfl
    have s2 : seqD (blD b) = some (b.map D.int) := rfl
    simp only [ev_name, ev_c, ev_op2, ev_op1, ev_toR1, ev_toRL1, ev_nil, ev_cons, ev_opn, ev_opnN, ev_tup, ev_lst, ev_lstN, ev_new, ev_tst, ev_notT, ev_andT, ev_orT, ev_notF, ev_andF, ev_orF, ev_ifF, ev_yes, ev_iter, ev_rng1, ev_rng2, ev_rngW, ev_noP, ev_sl, ev_part, ev_next, ev_noG, ev_seq, ev_drop, ev_ret, ev_retN, ev_if, ev_asg, ev_setA, ev_nilA, ev_consA, ev_seqT, ev_seqL, ev_setN, ev_ok, ev_ioV, ev_ioU, ev_ioW, ev_owV, ev_owU, ev_own, ev_put, ev_ixOwn, ev_lenOwn, ev_setIx, ev_comp, ev_compL0, ev_compL1, ev_okC, ev_wipe1, ev_wipe0, ev_rest1, ev_rest0, ev_call, ev_callN, ev_ofr, ev_ofn, ev_ofnN, ev_mut, ev_mdl, ev_mdi, ev_io, ev_addI, ev_subI, ev_negI, ev_cmpI, ev_eqI, ev_neI, ev_eqS, ev_neS, ev_intI, ev_intB, ev_absI, ev_lenL, ev_lenT, ev_ixL, ev_ixT, ev_at0, ev_at1, ev_at2, ev_i30, ev_i31, ev_i32, ev_pk1, ev_pk2, ev_pk3, ev_pk4, ev_pkw1, ev_pkw2, ev_pkv2, ev_isI, ev_isN, ev_isB, ev_inI, ev_inN, ev_inB, ev_listT, ev_listL, ev_tupT, ev_tupL, ev_fld, ev_insAt, ev_fldOwn, ev_fldG, ev_meth, ev_make, ev_callL, ev_noLI, ev_nilL, ev_nameL, ev_lendL, ev_conL, ev_augIx, ev_putAt, ev_iadd, ev_isub, ev_revT, ev_enum, ev_zip, ev_seqDL, ev_seqDT, ev_nilM, ev_vaM, ev_owM, ev_parM, ev_app, ev_par, ev_par3, R.bind_ok, R.out_ok, Option.bind_some, List.getElem?_cons_succ, List.getElem?_cons_zero, List.set_cons_succ, List.set_cons_zero, List.length_cons, List.length_nil, Nat.reduceAdd, Nat.reduceEqDiff, List.getD_cons_succ, List.getD_cons_zero, decide_true, decide_false, Bool.and_true, Bool.and_self, and_self, true_and, List.all_cons, List.all_nil, Bool.not_true, Bool.not_false, if_true, Bool.true_eq_false, Bool.false_eq_true, if_false, s1, s2]
  · rintro k hk s' ⟨y, z, rfl⟩
    rw [addL_getD (by omega)]
    exact ⟨_, _, _, rfl, rfl, rfl, .va (.int (a.getD k 0)), .va (.int (b.getD k 0)), rfl⟩
theorem dif_comp {n : Nat} {a b : List Int} {Z : F D} {x0 x1 x2 x3 x4 x5 x6 x7 x8 x10 x11 y12 y13 : Sl} (ha : a.length = n) (hb : b.length = n) (hn : n ≤ 6) (q12 : Pl y12) (q13 : Pl y13)
    (eZ : Z [x0, x1, x2, x3, x4, x5, x6, x7, x8, .va (blD a), x10, x11, y12, y13] = .ok (blD b) [x0, x1, x2, x3, x4, x5, x6, x7, x8, .va (blD a), x10, x11, y12, y13]) :
    lstF' (compN (zipF (nameF 9) Z) [12, 13] (seqA 2 (consA (setA 12) (consA (setA 13) nilA))) yesT (tupF (consF (op2F subD (nameF 12) (nameF 13)) (consF (cF (.int 1)) nilF)))) [x0, x1, x2, x3, x4, x5, x6, x7, x8, .va (blD a), x10, x11, y12, y13] = .ok (.lst ((List.range n).map fun k => .tup [.int (a.getD k 0 - b.getD k 0), .int 1])) [x0, x1, x2, x3, x4, x5, x6, x7, x8, .va (blD a), x10, x11, y12, y13] := by
  have hv : ([12, 13] : List Nat).all (okC [x0, x1, x2, x3, x4, x5, x6, x7, x8, .va (blD a), x10, x11, y12, y13]) = true := by
    simp only [List.all_cons, List.all_nil, Bool.and_true, ev_okC, List.getElem?_cons_succ, List.getElem?_cons_zero, q12.2, q13.2, Bool.not_false, Bool.and_self]
  have c := compN_src (k := zipF (nameF 9) Z) (u := yesT) (a := seqA 2 (consA (setA 12) (consA (setA 13) nilA))) (f := tupF (consF (op2F subD (nameF 12) (nameF 13)) (consF (cF (.int 1)) nilF))) (fun k : Nat => D.tup [.int (a.getD k 0), .int (b.getD k 0)]) (fun k : Nat => D.tup [.int (a.getD k 0 - b.getD k 0), .int 1]) (s := [x0, x1, x2, x3, x4, x5, x6, x7, x8, .va (blD a), x10, x11, y12, y13]) (s1 := [x0, x1, x2, x3, x4, x5, x6, x7, x8, .va (blD a), x10, x11, y12, y13]) (xs := List.range n) (by
      rw [← zip2 ha hb]
      have s1 : seqD (blD a) = some (a.map D.int) := rfl
      have s2 : seqD (blD b) = some (b.map D.int) := rfl
      simp only [ev_name, ev_c, ev_op2, ev_op1, ev_toR1, ev_toRL1, ev_nil, ev_cons, ev_opn, ev_opnN, ev_tup, ev_lst, ev_lstN, ev_new, ev_tst, ev_notT, ev_andT, ev_orT, ev_notF, ev_andF, ev_orF, ev_ifF, ev_yes, ev_iter, ev_rng1, ev_rng2, ev_rngW, ev_noP, ev_sl, ev_part, ev_next, ev_noG, ev_seq, ev_drop, ev_ret, ev_retN, ev_if, ev_asg, ev_setA, ev_nilA, ev_consA, ev_seqT, ev_seqL, ev_setN, ev_ok, ev_ioV, ev_ioU, ev_ioW, ev_owV, ev_owU, ev_own, ev_put, ev_ixOwn, ev_lenOwn, ev_setIx, ev_comp, ev_compL0, ev_compL1, ev_okC, ev_wipe1, ev_wipe0, ev_rest1, ev_rest0, ev_call, ev_callN, ev_ofr, ev_ofn, ev_ofnN, ev_mut, ev_mdl, ev_mdi, ev_io, ev_addI, ev_subI, ev_negI, ev_cmpI, ev_eqI, ev_neI, ev_eqS, ev_neS, ev_intI, ev_intB, ev_absI, ev_lenL, ev_lenT, ev_ixL, ev_ixT, ev_at0, ev_at1, ev_at2, ev_i30, ev_i31, ev_i32, ev_pk1, ev_pk2, ev_pk3, ev_pk4, ev_pkw1, ev_pkw2, ev_pkv2, ev_isI, ev_isN, ev_isB, ev_inI, ev_inN, ev_inB, ev_listT, ev_listL, ev_tupT, ev_tupL, ev_fld, ev_insAt, ev_fldOwn, ev_fldG, ev_meth, ev_make, ev_callL, ev_noLI, ev_nilL, ev_nameL, ev_lendL, ev_conL, ev_augIx, ev_putAt, ev_iadd, ev_isub, ev_revT, ev_enum, ev_zip, ev_seqDL, ev_seqDT, ev_nilM, ev_vaM, ev_owM, ev_parM, ev_app, ev_par, ev_par3, R.bind_ok, R.out_ok, Option.bind_some, List.getElem?_cons_succ, List.getElem?_cons_zero, List.set_cons_succ, List.set_cons_zero, List.length_cons, List.length_nil, Nat.reduceAdd, Nat.reduceEqDiff, List.getD_cons_succ, List.getD_cons_zero, decide_true, decide_false, Bool.and_true, Bool.and_self, and_self, true_and, List.all_cons, List.all_nil, Bool.not_true, Bool.not_false, if_true, Bool.true_eq_false, Bool.false_eq_true, if_false, eZ, s1, s2]) (by rw [List.length_range, sizeLine_eq]; omega) hv (fun s' => ∃ y z, s' = [x0, x1, x2, x3, x4, x5, x6, x7, x8, .va (blD a), x10, x11, y, z]) ⟨_, _, rfl⟩ (fun s' ⟨y, z, e⟩ => by rw [e]; rfl) (by
    rintro k hk s' ⟨y, z, rfl⟩
    refine ⟨_, _, [x0, x1, x2, x3, x4, x5, x6, x7, x8, .va (blD a), x10, x11, .va (.int (a.getD k 0)), .va (.int (b.getD k 0))], rfl, rfl, ?_, .va (.int (a.getD k 0)), .va (.int (b.getD k 0)), rfl⟩
    show tupF _ [x0, x1, x2, x3, x4, x5, x6, x7, x8, .va (blD a), x10, x11, .va (.int (a.getD k 0)), .va (.int (b.getD k 0))] = _
    simp only [ev_name, ev_c, ev_op2, ev_op1, ev_toR1, ev_toRL1, ev_nil, ev_cons, ev_opn, ev_opnN, ev_tup, ev_lst, ev_lstN, ev_new, ev_tst, ev_notT, ev_andT, ev_orT, ev_notF, ev_andF, ev_orF, ev_ifF, ev_yes, ev_iter, ev_rng1, ev_rng2, ev_rngW, ev_noP, ev_sl, ev_part, ev_next, ev_noG, ev_seq, ev_drop, ev_ret, ev_retN, ev_if, ev_asg, ev_setA, ev_nilA, ev_consA, ev_seqT, ev_seqL, ev_setN, ev_ok, ev_ioV, ev_ioU, ev_ioW, ev_owV, ev_owU, ev_own, ev_put, ev_ixOwn, ev_lenOwn, ev_setIx, ev_comp, ev_compL0, ev_compL1, ev_okC, ev_wipe1, ev_wipe0, ev_rest1, ev_rest0, ev_call, ev_callN, ev_ofr, ev_ofn, ev_ofnN, ev_mut, ev_mdl, ev_mdi, ev_io, ev_addI, ev_subI, ev_negI, ev_cmpI, ev_eqI, ev_neI, ev_eqS, ev_neS, ev_intI, ev_intB, ev_absI, ev_lenL, ev_lenT, ev_ixL, ev_ixT, ev_at0, ev_at1, ev_at2, ev_i30, ev_i31, ev_i32, ev_pk1, ev_pk2, ev_pk3, ev_pk4, ev_pkw1, ev_pkw2, ev_pkv2, ev_isI, ev_isN, ev_isB, ev_inI, ev_inN, ev_inB, ev_listT, ev_listL, ev_tupT, ev_tupL, ev_fld, ev_insAt, ev_fldOwn, ev_fldG, ev_meth, ev_make, ev_callL, ev_noLI, ev_nilL, ev_nameL, ev_lendL, ev_conL, ev_augIx, ev_putAt, ev_iadd, ev_isub, ev_revT, ev_enum, ev_zip, ev_seqDL, ev_seqDT, ev_nilM, ev_vaM, ev_owM, ev_parM, ev_app, ev_par, ev_par3, R.bind_ok, R.out_ok, Option.bind_some, List.getElem?_cons_succ, List.getElem?_cons_zero, List.set_cons_succ, List.set_cons_zero, List.length_cons, List.length_nil, Nat.reduceAdd, Nat.reduceEqDiff, List.getD_cons_succ, List.getD_cons_zero, decide_true, decide_false, Bool.and_true, Bool.and_self, and_self, true_and, List.all_cons, List.all_nil, Bool.not_true, Bool.not_false, if_true, Bool.true_eq_false, Bool.false_eq_true, if_false, sz2])
  generalize compN (zipF (nameF 9) Z) [12, 13] (seqA 2 (consA (setA 12) (consA (setA 13) nilA))) yesT (tupF (consF (op2F subD (nameF 12) (nameF 13)) (consF (cF (.int 1)) nilF))) = K at c ⊢
  simp only [ev_name, ev_c, ev_op2, ev_op1, ev_toR1, ev_toRL1, ev_nil, ev_cons, ev_opn, ev_opnN, ev_tup, ev_lst, ev_lstN, ev_new, ev_tst, ev_notT, ev_andT, ev_orT, ev_notF, ev_andF, ev_orF, ev_ifF, ev_yes, ev_iter, ev_rng1, ev_rng2, ev_rngW, ev_noP, ev_sl, ev_part, ev_next, ev_noG, ev_seq, ev_drop, ev_ret, ev_retN, ev_if, ev_asg, ev_setA, ev_nilA, ev_consA, ev_seqT, ev_seqL, ev_setN, ev_ok, ev_ioV, ev_ioU, ev_ioW, ev_owV, ev_owU, ev_own, ev_put, ev_ixOwn, ev_lenOwn, ev_setIx, ev_comp, ev_compL0, ev_compL1, ev_okC, ev_wipe1, ev_wipe0, ev_rest1, ev_rest0, ev_call, ev_callN, ev_ofr, ev_ofn, ev_ofnN, ev_mut, ev_mdl, ev_mdi, ev_io, ev_addI, ev_subI, ev_negI, ev_cmpI, ev_eqI, ev_neI, ev_eqS, ev_neS, ev_intI, ev_intB, ev_absI, ev_lenL, ev_lenT, ev_ixL, ev_ixT, ev_at0, ev_at1, ev_at2, ev_i30, ev_i31, ev_i32, ev_pk1, ev_pk2, ev_pk3, ev_pk4, ev_pkw1, ev_pkw2, ev_pkv2, ev_isI, ev_isN, ev_isB, ev_inI, ev_inN, ev_inB, ev_listT, ev_listL, ev_tupT, ev_tupL, ev_fld, ev_insAt, ev_fldOwn, ev_fldG, ev_meth, ev_make, ev_callL, ev_noLI, ev_nilL, ev_nameL, ev_lendL, ev_conL, ev_augIx, ev_putAt, ev_iadd, ev_isub, ev_revT, ev_enum, ev_zip, ev_seqDL, ev_seqDT, ev_nilM, ev_vaM, ev_owM, ev_parM, ev_app, ev_par, ev_par3, R.bind_ok, R.out_ok, Option.bind_some, List.getElem?_cons_succ, List.getElem?_cons_zero, List.set_cons_succ, List.set_cons_zero, List.length_cons, List.length_nil, Nat.reduceAdd, Nat.reduceEqDiff, List.getD_cons_succ, List.getD_cons_zero, decide_true, decide_false, Bool.and_true, Bool.and_self, and_self, true_and, List.all_cons, List.all_nil, Bool.not_true, Bool.not_false, if_true, Bool.true_eq_false, Bool.false_eq_true, if_false, c]
theorem forthF {w : Int} {st : List Stp} {bs : List Int} {X : D} {k : F (List D)} {s s1 : List Sl} (h1 : 1 ≤ w) (h2 : w ≤ 6) (ok : ∀ s ∈ st, s.Ok w) (hl : (bs.length : Int) = w) (hX : SeqX X bs) (hs : nameF 3 s = .ok (liftD w st) s) (hk : k s = .ok [X] s1) : methF "Lift" "forth" F_Lift_forth 2 (pickG 2 0 [] [0, 1]) (nameF 3) k nilF s = .ok (blD (forthI st bs)) s1 :=
  methE (cn := "Lift") hs rfl hk rfl rfl (forthP h1 h2 ok hl hX)
theorem farF {w : Int} {n i : Nat} {st : List Stp} {s : List Sl} (hn : (n : Int) = w) (w6 : w ≤ 6) (ok : ∀ s ∈ st, s.Okw w) (hl : st.length ≤ 12) (hs : nameF i s = .ok (liftD w st) s) : methF "Lift" "far" F_Lift_far 1 (pickG 1 0 [] [0]) (nameF i) nilF nilF s = .ok (matT n (rops st idM)) s :=
  methE (cn := "Lift") hs rfl rfl rfl rfl (farP hn w6 ok hl)
theorem shift_b2 {b : Nat} {P : List D} {w : Int} {st : List Stp} {x2 x5 x6 y7 y8 y9 y10 y11 y12 y13 : Sl} (h : Pen b P) (w1 : 1 ≤ w) (w6 : w ≤ 6) (ok : ∀ s ∈ st, s.Ok w) (hl : st.length ≤ 12) (hb : b < 2 ^ 17) (q7 : Pl y7) (q8 : Pl y8) (q9 : Pl y9) (q10 : Pl y10) (q11 : Pl y11) (q12 : Pl y12) (q13 : Pl y13) :
    ∃ P' z7 z8 z9 z10, g__law_shifts_right_b2 [.io (.l P), .va (.int w), x2, .va (liftD w st), .va (.int (overs st)), x5, x6, y7, y8, y9, y10, y11, y12, y13] = .nx [.io (.l P'), .va (.int w), x2, .va (liftD w st), .va (.int (overs st)), x5, x6, z7, z8, z9, z10, y11, y12, y13] ∧ Pl z7 ∧ Pl z8 ∧ Pl z9 ∧ Pl z10 ∧ Pen (b + 40) P' := by
  have okw : ∀ s ∈ st, s.Okw w := fun s hs => (ok s hs).w
  obtain ⟨osz, o1⟩ := overs_sz st okw
  obtain ⟨n, hn⟩ : ∃ n : Nat, (n : Int) = w := ⟨w.toNat, by omega⟩
  have hn6 : n ≤ 6 := by omega
  have osz : Sz 48 (overs st) := osz.mono (by omega)
  obtain ⟨bs, P1, e7, hbs, _, g1⟩ := block h (by omega) w6 (by omega)
  obtain ⟨ts, P2, e8, hts, htz, g2⟩ := shifts (x2 := x2) (x3 := .va (liftD w st)) (x5 := x5) (x6 := x6) (x7 := .va (blD bs)) (x8 := y8) (x9 := y9) (x10 := y10) (x12 := y12) (x13 := y13) g1 (by omega) w6 (by omega) osz q11
  obtain ⟨ds, hds⟩ : ∃ ds : List Int, ds = ts.map fun t => overs st * t := ⟨_, rfl⟩
  have dmul : Mul (overs st) ds := by rw [hds]; exact mul_map ts
  have dlen : ds.length = n := by rw [hds, List.length_map]; omega
  have blen : bs.length = n := by omega
  have dsz : ∀ k, Sz 130 (ds.getD k 0) := getD_sz fun x hx => by
    rw [hds] at hx
    obtain ⟨t, ht, rfl⟩ := List.mem_map.mp hx
    exact (osz.mul (htz t ht)).mono (by decide)
  rw [← hds] at e8
  have alen : (addL bs ds).length = n := by rw [addL_len (by omega)]; exact blen
  have fs := forth_shift st bs ds okw (by omega) dmul
  have slen : (shR st ds).length = n := by rw [shR_len]; exact dlen
  have flen : (forthI st bs).length = n := by rw [forth_len]; exact blen
  have falen : (forthI st (addL bs ds)).length = n := by rw [forth_len]; exact alen
  obtain ⟨V, v0, v1, v2⟩ := far_ov w6 okw hl
  have led := ledP (A := rops st idM) dlen hn6 v0 v1 v2 dsz
  have ledE : (List.range n).map (fun i => fr (dotI n (rops st idM i) ds)) = (List.range n).map fun k => D.tup [.int ((forthI st (addL bs ds)).getD k 0 - (forthI st bs).getD k 0), .int 1] := by
    refine List.map_congr_left fun k hk => ?_
    have hr : dotI n (rops st idM k) ds = (((shR st ds).getD k 0 : Int) : Rat) := led_rat okw hn dlen dmul k
    rw [hr, fr_int, fs, addL_getD (by omega)]
    congr 3
    omega
  rw [ledE] at led
  have e10 : ∀ s : List Sl, nameF 3 s = .ok (liftD w st) s → nameF 8 s = .ok (blD ds) s → callF F__law_led 2 (pickG 2 0 [] [0, 1]) (consF (methF "Lift" "far" F_Lift_far 1 (pickG 1 0 [] [0]) (nameF 3) nilF nilF) (consF (nameF 8) nilF)) nilF s = .ok (.lst ((List.range n).map fun k => D.tup [.int ((forthI st (addL bs ds)).getD k 0 - (forthI st bs).getD k 0), .int 1])) s := fun s h3 h8 => by
    have f := farF hn w6 okw hl h3
    generalize methF "Lift" "far" F_Lift_far 1 (pickG 1 0 [] [0]) (nameF 3) nilF nilF = Q at f ⊢
    generalize F__law_led = Fl at led ⊢
    simp only [ev_call, ev_cons, ev_nil, f, h8, R.bind_ok, ev_pk2, List.length_cons, List.length_nil, if_true, led, ev_ofn, Nat.reduceAdd]
  have hne : neD (.lst ((List.range n).map fun k => D.tup [.int ((forthI st (addL bs ds)).getD k 0 - (forthI st bs).getD k 0), .int 1])) (.lst ((List.range n).map fun k => D.tup [.int ((forthI st (addL bs ds)).getD k 0 - (forthI st bs).getD k 0), .int 1])) = some (.bl false) := by
    refine ne_same ?_ ?_
    · unfold laD
      exact laDL_map fun k _ => rfl
    · unfold shDp
      have := shDpL_map (f := fun k => D.tup [.int ((forthI st (addL bs ds)).getD k 0 - (forthI st bs).getD k 0), .int 1]) (m := 1) (xs := List.range n) fun k _ => Nat.le_refl 1
      omega
  refine ⟨P2, .va (blD bs), .va (blD ds), .va (blD (forthI st (addL bs ds))), .va (.lst ((List.range n).map fun k => D.tup [.int ((forthI st (addL bs ds)).getD k 0 - (forthI st bs).getD k 0), .int 1])), ?_, Pl.va, Pl.va, Pl.va, Pl.va, g2.mono (by omega)⟩
  refine shift_b2_g q7 q8 q9 q10 (x0' := .io (.l P1)) ?_ ?_ ?_ ?_ ?_ hne
  · simp only [ev_name, ev_c, ev_op2, ev_op1, ev_toR1, ev_toRL1, ev_nil, ev_cons, ev_opn, ev_opnN, ev_tup, ev_lst, ev_lstN, ev_new, ev_tst, ev_notT, ev_andT, ev_orT, ev_notF, ev_andF, ev_orF, ev_ifF, ev_yes, ev_iter, ev_rng1, ev_rng2, ev_rngW, ev_noP, ev_sl, ev_part, ev_next, ev_noG, ev_seq, ev_drop, ev_ret, ev_retN, ev_if, ev_asg, ev_setA, ev_nilA, ev_consA, ev_seqT, ev_seqL, ev_setN, ev_ok, ev_ioV, ev_ioU, ev_ioW, ev_owV, ev_owU, ev_own, ev_put, ev_ixOwn, ev_lenOwn, ev_setIx, ev_comp, ev_compL0, ev_compL1, ev_okC, ev_wipe1, ev_wipe0, ev_rest1, ev_rest0, ev_call, ev_callN, ev_ofr, ev_ofn, ev_ofnN, ev_mut, ev_mdl, ev_mdi, ev_io, ev_addI, ev_subI, ev_negI, ev_cmpI, ev_eqI, ev_neI, ev_eqS, ev_neS, ev_intI, ev_intB, ev_absI, ev_lenL, ev_lenT, ev_ixL, ev_ixT, ev_at0, ev_at1, ev_at2, ev_i30, ev_i31, ev_i32, ev_pk1, ev_pk2, ev_pk3, ev_pk4, ev_pkw1, ev_pkw2, ev_pkv2, ev_isI, ev_isN, ev_isB, ev_inI, ev_inN, ev_inB, ev_listT, ev_listL, ev_tupT, ev_tupL, ev_fld, ev_insAt, ev_fldOwn, ev_fldG, ev_meth, ev_make, ev_callL, ev_noLI, ev_nilL, ev_nameL, ev_lendL, ev_conL, ev_augIx, ev_putAt, ev_iadd, ev_isub, ev_revT, ev_enum, ev_zip, ev_seqDL, ev_seqDT, ev_nilM, ev_vaM, ev_owM, ev_parM, ev_app, ev_par, ev_par3, R.bind_ok, R.out_ok, Option.bind_some, List.getElem?_cons_succ, List.getElem?_cons_zero, List.set_cons_succ, List.set_cons_zero, List.length_cons, List.length_nil, Nat.reduceAdd, Nat.reduceEqDiff, List.getD_cons_succ, List.getD_cons_zero, decide_true, decide_false, Bool.and_true, Bool.and_self, and_self, true_and, List.all_cons, List.all_nil, Bool.not_true, Bool.not_false, if_true, Bool.true_eq_false, Bool.false_eq_true, if_false, e7]
  · generalize (compN (rng1F (nameF 1)) [11] (setA 11) yesT (op2F mulD (nameF 4) (callIoF F__law_pick 2 0 (consF (lstF (consF (cF (.int 0)) (consF (cF (.int 1)) (consF (op1F negD (cF (.int 1))) (consF (callIoF F__law_draw 2 0 (consF (op2F powD (cF (.int 10)) (cF (.int 24))) nilF)) nilF))))) nilF)))) = K at e8 ⊢
    have tl : tupleD [.lst (ds.map D.int)] = some (blD ds) := rfl
    simp only [ev_opn, ev_cons, ev_nil, ev_lstN, ev_new, e8, R.bind_ok, tl, ev_toR1]
  · have c := sum_comp (x0 := .io (.l P2)) (x1 := .va (.int w)) (x2 := x2) (x3 := .va (liftD w st)) (x4 := .va (.int (overs st))) (x5 := x5) (x6 := x6) (x9 := y9) (x10 := y10) (x11 := y11) blen dlen hn6 q12 q13
    refine forthF w1 w6 ok (X := .lst ((addL bs ds).map D.int)) (by omega) (.inr rfl) rfl ?_
    generalize compN (zipF (nameF 7) (nameF 8)) [12, 13] (seqA 2 (consA (setA 12) (consA (setA 13) nilA))) yesT (op2F addD (nameF 12) (nameF 13)) = K at c ⊢
    simp only [ev_name, ev_c, ev_op2, ev_op1, ev_toR1, ev_toRL1, ev_nil, ev_cons, ev_opn, ev_opnN, ev_tup, ev_lst, ev_lstN, ev_new, ev_tst, ev_notT, ev_andT, ev_orT, ev_notF, ev_andF, ev_orF, ev_ifF, ev_yes, ev_iter, ev_rng1, ev_rng2, ev_rngW, ev_noP, ev_sl, ev_part, ev_next, ev_noG, ev_seq, ev_drop, ev_ret, ev_retN, ev_if, ev_asg, ev_setA, ev_nilA, ev_consA, ev_seqT, ev_seqL, ev_setN, ev_ok, ev_ioV, ev_ioU, ev_ioW, ev_owV, ev_owU, ev_own, ev_put, ev_ixOwn, ev_lenOwn, ev_setIx, ev_okC, ev_wipe1, ev_wipe0, ev_rest1, ev_rest0, ev_call, ev_callN, ev_ofr, ev_ofn, ev_ofnN, ev_mut, ev_mdl, ev_mdi, ev_io, ev_addI, ev_subI, ev_negI, ev_cmpI, ev_eqI, ev_neI, ev_eqS, ev_neS, ev_intI, ev_intB, ev_absI, ev_lenL, ev_lenT, ev_ixL, ev_ixT, ev_at0, ev_at1, ev_at2, ev_i30, ev_i31, ev_i32, ev_pk1, ev_pk2, ev_pk3, ev_pk4, ev_pkw1, ev_pkw2, ev_pkv2, ev_isI, ev_isN, ev_isB, ev_inI, ev_inN, ev_inB, ev_listT, ev_listL, ev_tupT, ev_tupL, ev_fld, ev_insAt, ev_fldOwn, ev_fldG, ev_meth, ev_make, ev_callL, ev_noLI, ev_nilL, ev_nameL, ev_lendL, ev_conL, ev_augIx, ev_putAt, ev_iadd, ev_isub, ev_revT, ev_enum, ev_zip, ev_seqDL, ev_seqDT, ev_nilM, ev_vaM, ev_owM, ev_parM, ev_app, ev_par, ev_par3, R.bind_ok, R.out_ok, Option.bind_some, List.getElem?_cons_succ, List.getElem?_cons_zero, List.set_cons_succ, List.set_cons_zero, List.length_cons, List.length_nil, Nat.reduceAdd, Nat.reduceEqDiff, List.getD_cons_succ, List.getD_cons_zero, decide_true, decide_false, Bool.and_true, Bool.and_self, and_self, true_and, List.all_cons, List.all_nil, Bool.not_true, Bool.not_false, if_true, Bool.true_eq_false, Bool.false_eq_true, if_false, c]
  · exact e10 _ rfl rfl
  · exact dif_comp falen flen hn6 q12 q13 (forthF w1 w6 ok (by omega) (.inl rfl) rfl rfl)
theorem shiftsP {b : Nat} {P : List D} {w : Int} {st : List Stp} (h : Pen b P) (w1 : 1 ≤ w) (w6 : w ≤ 6) (ok : ∀ s ∈ st, s.Ok w) (hl : st.length ≤ 12) (hb : b < 2 ^ 16) : ∃ P', F__law_shifts_right [.lst P, .int w, stD st, liftD w st] = .ret (.bl true) (.l P') ∧ Pen (b + 120) P' := by
  have okw : ∀ s ∈ st, s.Okw w := fun s hs => (ok s hs).w
  obtain ⟨z5, e1, q5⟩ := scale_loop (x0 := .io (.l P)) (x1 := .va (.int w)) (x2 := .va (stD st)) (x3 := .va (liftD w st)) (x6 := .un) (x7 := .un) (x8 := .un) (x9 := .un) (x10 := .un) (x11 := .un) (x12 := .un) (x13 := .un) st 1 1 .un okw ⟨by decide, by decide⟩ (by omega) Pl.un
  rw [Int.one_mul] at e1
  obtain ⟨s', e2, P', z6, z7, z8, z9, z10, rfl, r6, r7, r8, r9, r10, hP⟩ := forL_run (a := setA 6) (G1 := g__law_shifts_right_b2)
    (I := fun m s' => ∃ P' z6 z7 z8 z9 z10, s' = [.io (.l P'), .va (.int w), .va (stD st), .va (liftD w st), .va (.int (overs st)), z5, z6, z7, z8, z9, z10, .un, .un, .un] ∧ Pl z6 ∧ Pl z7 ∧ Pl z8 ∧ Pl z9 ∧ Pl z10 ∧ Pen (b + 40 * m) P')
    (rngD 0 3) 0 _ ⟨P, .un, .un, .un, .un, .un, rfl, Pl.un, Pl.un, Pl.un, Pl.un, Pl.un, h⟩ fun m d s' e i => by
      obtain ⟨P', z6, z7, z8, z9, z10, rfl, r6, r7, r8, r9, r10, hP⟩ := i
      have hm : m < 3 := by
        have := (List.getElem?_eq_some_iff.mp e).1
        rw [rngD_length] at this
        omega
      obtain ⟨P2, u7, u8, u9, u10, e2, t7, t8, t9, t10, g2⟩ := shift_b2 (x2 := .va (stD st)) (x5 := z5) (x6 := .va d) hP w1 w6 ok hl (by omega) r7 r8 r9 r10 Pl.un Pl.un Pl.un
      refine ⟨[.io (.l P'), .va (.int w), .va (stD st), .va (liftD w st), .va (.int (overs st)), z5, .va d, z7, z8, z9, z10, .un, .un, .un], _, ?_, .inl e2, P2, .va d, u7, u8, u9, u10, rfl, Pl.va, t7, t8, t9, t10, g2.mono (by omega)⟩
      simp only [ev_name, ev_c, ev_op2, ev_op1, ev_toR1, ev_toRL1, ev_nil, ev_cons, ev_opn, ev_opnN, ev_tup, ev_lst, ev_lstN, ev_new, ev_tst, ev_notT, ev_andT, ev_orT, ev_notF, ev_andF, ev_orF, ev_ifF, ev_yes, ev_iter, ev_rng1, ev_rng2, ev_rngW, ev_noP, ev_sl, ev_part, ev_next, ev_noG, ev_seq, ev_drop, ev_ret, ev_retN, ev_if, ev_asg, ev_setA, ev_nilA, ev_consA, ev_seqT, ev_seqL, ev_setN, ev_ok, ev_ioV, ev_ioU, ev_ioW, ev_owV, ev_owU, ev_own, ev_put, ev_ixOwn, ev_lenOwn, ev_setIx, ev_comp, ev_compL0, ev_compL1, ev_okC, ev_wipe1, ev_wipe0, ev_rest1, ev_rest0, ev_call, ev_callN, ev_ofr, ev_ofn, ev_ofnN, ev_mut, ev_mdl, ev_mdi, ev_io, ev_addI, ev_subI, ev_negI, ev_cmpI, ev_eqI, ev_neI, ev_eqS, ev_neS, ev_intI, ev_intB, ev_absI, ev_lenL, ev_lenT, ev_ixL, ev_ixT, ev_at0, ev_at1, ev_at2, ev_i30, ev_i31, ev_i32, ev_pk1, ev_pk2, ev_pk3, ev_pk4, ev_pkw1, ev_pkw2, ev_pkv2, ev_isI, ev_isN, ev_isB, ev_inI, ev_inN, ev_inB, ev_listT, ev_listL, ev_tupT, ev_tupL, ev_fld, ev_insAt, ev_fldOwn, ev_fldG, ev_meth, ev_make, ev_callL, ev_noLI, ev_nilL, ev_nameL, ev_lendL, ev_conL, ev_augIx, ev_putAt, ev_iadd, ev_isub, ev_revT, ev_enum, ev_zip, ev_seqDL, ev_seqDT, ev_nilM, ev_vaM, ev_owM, ev_parM, ev_app, ev_par, ev_par3, R.bind_ok, R.out_ok, Option.bind_some, List.getElem?_cons_succ, List.getElem?_cons_zero, List.set_cons_succ, List.set_cons_zero, List.length_cons, List.length_nil, Nat.reduceAdd, Nat.reduceEqDiff, List.getD_cons_succ, List.getD_cons_zero, decide_true, decide_false, Bool.and_true, Bool.and_self, and_self, true_and, List.all_cons, List.all_nil, Bool.not_true, Bool.not_false, if_true, Bool.true_eq_false, Bool.false_eq_true, if_false, r6.1]
  refine ⟨P', ?_, hP.mono (by rw [rngD_length]; omega)⟩
  have it : iterF (nameF 2) [.io (.l P), .va (.int w), .va (stD st), .va (liftD w st), .va (.int 1), .un, .un, .un, .un, .un, .un, .un, .un, .un] = .ok (st.map Stp.d) [.io (.l P), .va (.int w), .va (stD st), .va (liftD w st), .va (.int 1), .un, .un, .un, .un, .un, .un, .un, .un, .un] := rfl
  have sm : sm62 3 = true := by decide
  show outF true (g__law_shifts_right [.io (.l P), .va (.int w), .va (stD st), .va (liftD w st), .un, .un, .un, .un, .un, .un, .un, .un, .un, .un]) = _
  unfold g__law_shifts_right
  generalize g__law_shifts_right_b1 = B1 at e1 ⊢
  generalize g__law_shifts_right_b2 = B2 at e2 ⊢
  generalize iterF (nameF 2) = I at it ⊢
  simp only [ev_name, ev_c, ev_op2, ev_op1, ev_toR1, ev_toRL1, ev_nil, ev_cons, ev_opn, ev_opnN, ev_tup, ev_lst, ev_lstN, ev_new, ev_tst, ev_notT, ev_andT, ev_orT, ev_notF, ev_andF, ev_orF, ev_ifF, ev_yes, ev_iter, ev_rng1, ev_rng2, ev_rngW, ev_noP, ev_sl, ev_part, ev_next, ev_noG, ev_seq, ev_drop, ev_ret, ev_retN, ev_if, ev_asg, ev_setA, ev_nilA, ev_consA, ev_seqT, ev_seqL, ev_setN, ev_ok, ev_ioV, ev_ioU, ev_ioW, ev_owV, ev_owU, ev_own, ev_put, ev_ixOwn, ev_lenOwn, ev_setIx, ev_comp, ev_compL0, ev_compL1, ev_okC, ev_wipe1, ev_wipe0, ev_rest1, ev_rest0, ev_call, ev_callN, ev_ofr, ev_ofn, ev_ofnN, ev_mut, ev_mdl, ev_mdi, ev_io, ev_addI, ev_subI, ev_negI, ev_cmpI, ev_eqI, ev_neI, ev_eqS, ev_neS, ev_intI, ev_intB, ev_absI, ev_lenL, ev_lenT, ev_ixL, ev_ixT, ev_at0, ev_at1, ev_at2, ev_i30, ev_i31, ev_i32, ev_pk1, ev_pk2, ev_pk3, ev_pk4, ev_pkw1, ev_pkw2, ev_pkv2, ev_isI, ev_isN, ev_isB, ev_inI, ev_inN, ev_inB, ev_listT, ev_listL, ev_tupT, ev_tupL, ev_fld, ev_insAt, ev_fldOwn, ev_fldG, ev_meth, ev_make, ev_callL, ev_noLI, ev_nilL, ev_nameL, ev_lendL, ev_conL, ev_augIx, ev_putAt, ev_iadd, ev_isub, ev_revT, ev_enum, ev_zip, ev_seqDL, ev_seqDT, ev_nilM, ev_vaM, ev_owM, ev_parM, ev_app, ev_par, ev_par3, R.bind_ok, R.out_ok, Option.bind_some, List.getElem?_cons_succ, List.getElem?_cons_zero, List.set_cons_succ, List.set_cons_zero, List.length_cons, List.length_nil, Nat.reduceAdd, Nat.reduceEqDiff, List.getD_cons_succ, List.getD_cons_zero, decide_true, decide_false, Bool.and_true, Bool.and_self, and_self, true_and, List.all_cons, List.all_nil, Bool.not_true, Bool.not_false, if_true, Bool.true_eq_false, Bool.false_eq_true, if_false, ev_for, it, e1, sm, e2]
  rfl
end Fx

set_option Elab.async false
set_option linter.all false
set_option maxRecDepth 100000
namespace Fx
open PySem L2 PyProof.Rows
set_option maxHeartbeats 1000000
/-! ### a lift undone -/
theorem turnP (s : Stp) (hl : s.ps.length ≤ 6) : F_turned_step [s.d] = .ret (turn1 s).d (.l []) := by
  have sq : ∀ (b : ASs) (t : List Sl), seqA 4 b s.d t = b [.int s.t, .tup (s.ps.map pairD), .int s.a, .int s.o] t := fun _ _ => rfl
  have c : compN (iterF (nameF 2)) [5, 6] (seqA 2 (consA (setA 5) (consA (setA 6) nilA))) yesT (tupF (consF (nameF 5) (consF (op1F negD (nameF 6)) nilF))) [.va s.d, .va (.int s.t), .va (.tup (s.ps.map pairD)), .va (.int s.a), .va (.int s.o), .un, .un] = .ok (s.ps.map fun p => pairD (p.1, -p.2)) [.va s.d, .va (.int s.t), .va (.tup (s.ps.map pairD)), .va (.int s.a), .va (.int s.o), .un, .un] := by
    refine compN_src pairD (fun p : Int × Int => pairD (p.1, -p.2)) (s1 := [.va s.d, .va (.int s.t), .va (.tup (s.ps.map pairD)), .va (.int s.a), .va (.int s.o), .un, .un]) (xs := s.ps) rfl (by rw [sizeLine_eq]; omega) rfl (fun s' => ∃ y z, s' = [.va s.d, .va (.int s.t), .va (.tup (s.ps.map pairD)), .va (.int s.a), .va (.int s.o), y, z]) ⟨_, _, rfl⟩ (fun s' ⟨y, z, e⟩ => by rw [e]; rfl) ?_
    rintro p hp s' ⟨y, z, rfl⟩
    refine ⟨_, _, [.va s.d, .va (.int s.t), .va (.tup (s.ps.map pairD)), .va (.int s.a), .va (.int s.o), .va (.int p.1), .va (.int p.2)], rfl, rfl, ?_, .va (.int p.1), .va (.int p.2), rfl⟩
    show tupF _ [.va s.d, .va (.int s.t), .va (.tup (s.ps.map pairD)), .va (.int s.a), .va (.int s.o), .va (.int p.1), .va (.int p.2)] = _
    simp only [ev_name, ev_c, ev_op2, ev_op1, ev_toR1, ev_toRL1, ev_nil, ev_cons, ev_opn, ev_opnN, ev_tup, ev_lst, ev_lstN, ev_new, ev_tst, ev_notT, ev_andT, ev_orT, ev_notF, ev_andF, ev_orF, ev_ifF, ev_yes, ev_iter, ev_rng1, ev_rng2, ev_rngW, ev_noP, ev_sl, ev_part, ev_next, ev_noG, ev_seq, ev_drop, ev_ret, ev_retN, ev_if, ev_asg, ev_setA, ev_nilA, ev_consA, ev_seqT, ev_seqL, ev_setN, ev_ok, ev_ioV, ev_ioU, ev_ioW, ev_owV, ev_owU, ev_own, ev_put, ev_ixOwn, ev_lenOwn, ev_setIx, ev_comp, ev_compL0, ev_compL1, ev_okC, ev_wipe1, ev_wipe0, ev_rest1, ev_rest0, ev_call, ev_callN, ev_ofr, ev_ofn, ev_ofnN, ev_mut, ev_mdl, ev_mdi, ev_io, ev_addI, ev_subI, ev_negI, ev_cmpI, ev_eqI, ev_neI, ev_eqS, ev_neS, ev_intI, ev_intB, ev_absI, ev_lenL, ev_lenT, ev_ixL, ev_ixT, ev_at0, ev_at1, ev_at2, ev_i30, ev_i31, ev_i32, ev_pk1, ev_pk2, ev_pk3, ev_pk4, ev_pkw1, ev_pkw2, ev_pkv2, ev_isI, ev_isN, ev_isB, ev_inI, ev_inN, ev_inB, ev_listT, ev_listL, ev_tupT, ev_tupL, ev_fld, ev_insAt, ev_fldOwn, ev_fldG, ev_meth, ev_make, ev_callL, ev_noLI, ev_nilL, ev_nameL, ev_lendL, ev_conL, ev_augIx, ev_putAt, ev_iadd, ev_isub, ev_revT, ev_enum, ev_zip, ev_seqDL, ev_seqDT, ev_nilM, ev_vaM, ev_owM, ev_parM, ev_app, ev_par, ev_par3, R.bind_ok, R.out_ok, Option.bind_some, List.getElem?_cons_succ, List.getElem?_cons_zero, List.set_cons_succ, List.set_cons_zero, List.length_cons, List.length_nil, Nat.reduceAdd, Nat.reduceEqDiff, List.getD_cons_succ, List.getD_cons_zero, decide_true, decide_false, Bool.and_true, Bool.and_self, and_self, true_and, List.all_cons, List.all_nil, Bool.not_true, Bool.not_false, if_true, Bool.true_eq_false, Bool.false_eq_true, if_false, sz2]
    rfl
  have e : (turn1 s).d = .tup [.int s.t, .tup (s.ps.map fun p => pairD (p.1, -p.2)), .int (s.o - 1 - s.a), .int s.o] := by
    unfold turn1 Stp.d
    dsimp only
    rw [List.map_map]
    rfl
  rw [e]
  show outF false (g_turned_step [.va s.d, .un, .un, .un, .un, .un, .un]) = _
  unfold g_turned_step
  generalize compN (iterF (nameF 2)) [5, 6] (seqA 2 (consA (setA 5) (consA (setA 6) nilA))) yesT (tupF (consF (nameF 5) (consF (op1F negD (nameF 6)) nilF))) = K at c ⊢
  simp only [ev_name, ev_c, ev_op2, ev_op1, ev_toR1, ev_toRL1, ev_nil, ev_cons, ev_opn, ev_opnN, ev_tup, ev_lst, ev_lstN, ev_new, ev_tst, ev_notT, ev_andT, ev_orT, ev_notF, ev_andF, ev_orF, ev_ifF, ev_yes, ev_iter, ev_rng1, ev_rng2, ev_rngW, ev_noP, ev_sl, ev_part, ev_next, ev_noG, ev_seq, ev_drop, ev_ret, ev_retN, ev_if, ev_asg, ev_setA, ev_nilA, ev_consA, ev_seqT, ev_seqL, ev_setN, ev_ok, ev_ioV, ev_ioU, ev_ioW, ev_owV, ev_owU, ev_own, ev_put, ev_ixOwn, ev_lenOwn, ev_setIx, ev_comp, ev_compL0, ev_compL1, ev_okC, ev_wipe1, ev_wipe0, ev_rest1, ev_rest0, ev_call, ev_callN, ev_ofr, ev_ofn, ev_ofnN, ev_mut, ev_mdl, ev_mdi, ev_io, ev_addI, ev_subI, ev_negI, ev_cmpI, ev_eqI, ev_neI, ev_eqS, ev_neS, ev_intI, ev_intB, ev_absI, ev_lenL, ev_lenT, ev_ixL, ev_ixT, ev_at0, ev_at1, ev_at2, ev_i30, ev_i31, ev_i32, ev_pk1, ev_pk2, ev_pk3, ev_pk4, ev_pkw1, ev_pkw2, ev_pkv2, ev_isI, ev_isN, ev_isB, ev_inI, ev_inN, ev_inB, ev_listT, ev_listL, ev_tupT, ev_tupL, ev_fld, ev_insAt, ev_fldOwn, ev_fldG, ev_meth, ev_make, ev_callL, ev_noLI, ev_nilL, ev_nameL, ev_lendL, ev_conL, ev_augIx, ev_putAt, ev_iadd, ev_isub, ev_revT, ev_enum, ev_zip, ev_seqDL, ev_seqDT, ev_nilM, ev_vaM, ev_owM, ev_parM, ev_app, ev_par, ev_par3, R.bind_ok, R.out_ok, Option.bind_some, List.getElem?_cons_succ, List.getElem?_cons_zero, List.set_cons_succ, List.set_cons_zero, List.length_cons, List.length_nil, Nat.reduceAdd, Nat.reduceEqDiff, List.getD_cons_succ, List.getD_cons_zero, decide_true, decide_false, Bool.and_true, Bool.and_self, and_self, true_and, List.all_cons, List.all_nil, Bool.not_true, Bool.not_false, if_true, Bool.true_eq_false, Bool.false_eq_true, if_false, sq, c, sz4]
  rfl
theorem rawP {w : Int} {st : List Stp} {X : D} (h1 : 1 ≤ w) (h2 : w ≤ 6) (hX : SeqS X (st.map Stp.d)) : F_raw_lift [.int w, X] = .ret (liftD w st) (.l []) := by
  have mk := mkLift (w := w) (st := []) (X := .tup []) h1 h2 (fun s hs => by cases hs) (by decide) (.inl rfl)
  have md := madeLift (w := w) (st := [])
  have m1 : (("Lift" : Str) ∈ (["Lift"] : List Str)) = True := eq_true (by decide)
  have tl := hX.tup
  have pt : putD ("steps" : Str) (.tup (st.map Stp.d)) [(("width" : Str), .int w), (("steps" : Str), stD [])] = [(("width" : Str), .int w), (("steps" : Str), stD st)] := rfl
  show outF false (g_raw_lift [.va (.int w), .va X, .un]) = _
  unfold g_raw_lift makeG
  generalize F_Lift___init__ = Fi at mk ⊢
  generalize stD [] = S0 at mk md pt ⊢
  simp only [ev_name, ev_c, ev_op2, ev_op1, ev_toR1, ev_toRL1, ev_nil, ev_cons, ev_opn, ev_opnN, ev_tup, ev_lst, ev_lstN, ev_new, ev_tst, ev_notT, ev_andT, ev_orT, ev_notF, ev_andF, ev_orF, ev_ifF, ev_yes, ev_iter, ev_rng1, ev_rng2, ev_rngW, ev_noP, ev_sl, ev_part, ev_next, ev_noG, ev_seq, ev_drop, ev_ret, ev_retN, ev_if, ev_asg, ev_setA, ev_nilA, ev_consA, ev_seqT, ev_seqL, ev_setN, ev_ok, ev_ioV, ev_ioU, ev_ioW, ev_owV, ev_owU, ev_own, ev_put, ev_ixOwn, ev_lenOwn, ev_setIx, ev_okC, ev_wipe1, ev_wipe0, ev_rest1, ev_rest0, ev_call, ev_callN, ev_ofr, ev_ofn, ev_ofnN, ev_mut, ev_mdl, ev_mdi, ev_io, ev_addI, ev_subI, ev_negI, ev_cmpI, ev_eqI, ev_neI, ev_eqS, ev_neS, ev_intI, ev_intB, ev_absI, ev_lenL, ev_lenT, ev_ixL, ev_ixT, ev_at0, ev_at1, ev_at2, ev_i30, ev_i31, ev_i32, ev_pk1, ev_pk2, ev_pk3, ev_pk4, ev_pkw1, ev_pkw2, ev_pkv2, ev_isI, ev_isN, ev_isB, ev_inI, ev_inN, ev_inB, ev_listT, ev_listL, ev_tupT, ev_tupL, ev_fld, ev_insAt, ev_fldOwn, ev_fldG, ev_meth, ev_make, ev_callL, ev_noLI, ev_nilL, ev_nameL, ev_lendL, ev_conL, ev_augIx, ev_putAt, ev_iadd, ev_isub, ev_revT, ev_enum, ev_zip, ev_seqDL, ev_seqDT, ev_nilM, ev_vaM, ev_owM, ev_parM, ev_app, ev_par, ev_par3, R.bind_ok, R.out_ok, Option.bind_some, List.getElem?_cons_succ, List.getElem?_cons_zero, List.set_cons_succ, List.set_cons_zero, List.length_cons, List.length_nil, Nat.reduceAdd, Nat.reduceEqDiff, List.getD_cons_succ, List.getD_cons_zero, decide_true, decide_false, Bool.and_true, Bool.and_self, and_self, true_and, List.all_cons, List.all_nil, Bool.not_true, Bool.not_false, if_true, Bool.true_eq_false, Bool.false_eq_true, if_false, mk, md, sz0, m1, tl, pt, show (0 + 1 + 1 : Nat) < 1000 by decide, show (2 : Nat) < 1000 by decide]
  rfl
theorem undoneP {w : Int} {st : List Stp} (h1 : 1 ≤ w) (h2 : w ≤ 6) (ok : ∀ s ∈ st, s.Okw w) (hl : st.length ≤ 12) : F_Lift_undone [liftD w st] = .ret (liftD w (st.reverse.map turn1)) (.l []) := by
  have fw : ∀ y : List Sl, fldF ["Lift"] "width" (nameF 0) (.va (liftD w st) :: y) = .ok (.int w) (.va (liftD w st) :: y) := fun y => fldE rfl (by decide) rfl
  have fs : ∀ y : List Sl, fldF ["Lift"] "steps" (nameF 0) (.va (liftD w st) :: y) = .ok (stD st) (.va (liftD w st) :: y) := fun y => fldE rfl (by decide) rfl
  have rw1 := rawP (w := w) (st := st.reverse.map turn1) (X := .lst ((st.reverse.map turn1).map Stp.d)) h1 h2 (.inr rfl)
  have c : compN (iterF (revTF (fldF ["Lift"] "steps" (nameF 0)))) [1] (setA 1) yesT (callF F_turned_step 1 (pickG 1 0 [] [0]) (consF (nameF 1) nilF) nilF) [.va (liftD w st), .un] = .ok ((st.reverse.map turn1).map Stp.d) [.va (liftD w st), .un] := by
    rw [List.map_map]
    refine compN_src1 Stp.d (Stp.d ∘ turn1) (s1 := [.va (liftD w st), .un]) (xs := st.reverse) ?_ (by rw [List.length_reverse, sizeLine_eq]; omega) (y0 := .un) rfl Pl.un rfl fun s hs => ?_
    · have f := fs [.un]
      generalize fldF ["Lift"] "steps" (nameF 0) = Q at f ⊢
      unfold stD at f
      simp only [ev_name, ev_c, ev_op2, ev_op1, ev_toR1, ev_toRL1, ev_nil, ev_cons, ev_opn, ev_opnN, ev_tup, ev_lst, ev_lstN, ev_new, ev_tst, ev_notT, ev_andT, ev_orT, ev_notF, ev_andF, ev_orF, ev_ifF, ev_yes, ev_iter, ev_rng1, ev_rng2, ev_rngW, ev_noP, ev_sl, ev_part, ev_next, ev_noG, ev_seq, ev_drop, ev_ret, ev_retN, ev_if, ev_asg, ev_setA, ev_nilA, ev_consA, ev_seqT, ev_seqL, ev_setN, ev_ok, ev_ioV, ev_ioU, ev_ioW, ev_owV, ev_owU, ev_own, ev_put, ev_ixOwn, ev_lenOwn, ev_setIx, ev_comp, ev_compL0, ev_compL1, ev_okC, ev_wipe1, ev_wipe0, ev_rest1, ev_rest0, ev_call, ev_callN, ev_ofr, ev_ofn, ev_ofnN, ev_mut, ev_mdl, ev_mdi, ev_io, ev_addI, ev_subI, ev_negI, ev_cmpI, ev_eqI, ev_neI, ev_eqS, ev_neS, ev_intI, ev_intB, ev_absI, ev_lenL, ev_lenT, ev_ixL, ev_ixT, ev_at0, ev_at1, ev_at2, ev_i30, ev_i31, ev_i32, ev_pk1, ev_pk2, ev_pk3, ev_pk4, ev_pkw1, ev_pkw2, ev_pkv2, ev_isI, ev_isN, ev_isB, ev_inI, ev_inN, ev_inB, ev_listT, ev_listL, ev_tupT, ev_tupL, ev_fld, ev_insAt, ev_fldOwn, ev_fldG, ev_meth, ev_make, ev_callL, ev_noLI, ev_nilL, ev_nameL, ev_lendL, ev_conL, ev_augIx, ev_putAt, ev_iadd, ev_isub, ev_revT, ev_enum, ev_zip, ev_seqDL, ev_seqDT, ev_nilM, ev_vaM, ev_owM, ev_parM, ev_app, ev_par, ev_par3, R.bind_ok, R.out_ok, Option.bind_some, List.getElem?_cons_succ, List.getElem?_cons_zero, List.set_cons_succ, List.set_cons_zero, List.length_cons, List.length_nil, Nat.reduceAdd, Nat.reduceEqDiff, List.getD_cons_succ, List.getD_cons_zero, decide_true, decide_false, Bool.and_true, Bool.and_self, and_self, true_and, List.all_cons, List.all_nil, Bool.not_true, Bool.not_false, if_true, Bool.true_eq_false, Bool.false_eq_true, if_false, f, List.map_reverse]
    · have t := turnP s (by have := (ok s (List.mem_reverse.mp hs)).len; omega)
      exact callE (k := consF (nameF 1) nilF) (ds := [s.d]) rfl rfl rfl t
  have f := fw [.un]
  show outF false (g_Lift_undone [.va (liftD w st), .un]) = _
  unfold g_Lift_undone
  generalize compN (iterF (revTF (fldF ["Lift"] "steps" (nameF 0)))) [1] (setA 1) yesT (callF F_turned_step 1 (pickG 1 0 [] [0]) (consF (nameF 1) nilF) nilF) = K at c ⊢
  generalize fldF ["Lift"] "width" (nameF 0) = Q at f ⊢
  generalize F_raw_lift = Fr at rw1 ⊢
  simp only [ev_name, ev_c, ev_op2, ev_op1, ev_toR1, ev_toRL1, ev_nil, ev_cons, ev_opn, ev_opnN, ev_tup, ev_lst, ev_lstN, ev_new, ev_tst, ev_notT, ev_andT, ev_orT, ev_notF, ev_andF, ev_orF, ev_ifF, ev_yes, ev_iter, ev_rng1, ev_rng2, ev_rngW, ev_noP, ev_sl, ev_part, ev_next, ev_noG, ev_seq, ev_drop, ev_ret, ev_retN, ev_if, ev_asg, ev_setA, ev_nilA, ev_consA, ev_seqT, ev_seqL, ev_setN, ev_ok, ev_ioV, ev_ioU, ev_ioW, ev_owV, ev_owU, ev_own, ev_put, ev_ixOwn, ev_lenOwn, ev_setIx, ev_okC, ev_wipe1, ev_wipe0, ev_rest1, ev_rest0, ev_call, ev_callN, ev_ofr, ev_ofn, ev_ofnN, ev_mut, ev_mdl, ev_mdi, ev_io, ev_addI, ev_subI, ev_negI, ev_cmpI, ev_eqI, ev_neI, ev_eqS, ev_neS, ev_intI, ev_intB, ev_absI, ev_lenL, ev_lenT, ev_ixL, ev_ixT, ev_at0, ev_at1, ev_at2, ev_i30, ev_i31, ev_i32, ev_pk1, ev_pk2, ev_pk3, ev_pk4, ev_pkw1, ev_pkw2, ev_pkv2, ev_isI, ev_isN, ev_isB, ev_inI, ev_inN, ev_inB, ev_listT, ev_listL, ev_tupT, ev_tupL, ev_fld, ev_insAt, ev_fldOwn, ev_fldG, ev_meth, ev_make, ev_callL, ev_noLI, ev_nilL, ev_nameL, ev_lendL, ev_conL, ev_augIx, ev_putAt, ev_iadd, ev_isub, ev_revT, ev_enum, ev_zip, ev_seqDL, ev_seqDT, ev_nilM, ev_vaM, ev_owM, ev_parM, ev_app, ev_par, ev_par3, R.bind_ok, R.out_ok, Option.bind_some, List.getElem?_cons_succ, List.getElem?_cons_zero, List.set_cons_succ, List.set_cons_zero, List.length_cons, List.length_nil, Nat.reduceAdd, Nat.reduceEqDiff, List.getD_cons_succ, List.getD_cons_zero, decide_true, decide_false, Bool.and_true, Bool.and_self, and_self, true_and, List.all_cons, List.all_nil, Bool.not_true, Bool.not_false, if_true, Bool.true_eq_false, Bool.false_eq_true, if_false, f, c, rw1]
  rfl
theorem turn_okw {w : Int} {s : Stp} (h : s.Okw w) : (turn1 s).Okw w := ⟨h.t0, h.t1, ⟨fun p hp => by
    obtain ⟨q, hq, rfl⟩ := List.mem_map.mp hp
    have := h.p.pr q hq
    show 0 ≤ q.1 ∧ q.1 < w ∧ q.1 ≠ s.t ∧ -9 ≤ -q.2 ∧ -q.2 ≤ 9 ∧ -q.2 ≠ 0
    omega, by
    show (s.ps.map fun p => (p.1, -p.2)).Pairwise _
    rw [List.pairwise_map]
    exact h.p.asc⟩, by show (((s.ps.map fun p => (p.1, -p.2)).length : Nat) : Int) ≤ w - 1; rw [List.length_map]; exact h.len, h.o0, h.o1⟩
theorem turns_okw {w : Int} {st : List Stp} (ok : ∀ s ∈ st, s.Okw w) : ∀ s ∈ st.reverse.map turn1, s.Okw w := fun s hs => by
  obtain ⟨t, ht, rfl⟩ := List.mem_map.mp hs
  exact turn_okw (ok t (List.mem_reverse.mp ht))
/-! ### rows times columns -/
def cutM (n : Nat) (A : Mat) : Mat := fun i j => if i < n then A i j else 0
theorem cut_rop {w : Int} {n : Nat} {s : Stp} (ok : s.Okw w) (hn : (n : Int) = w) (A : Mat) : cutM n (rop s A) = rop s (cutM n A) := by
  have t0 := ok.t0
  have t1 := ok.t1
  funext i j
  unfold cutM rop
  by_cases h : i = s.t.toNat
  · subst h
    rw [if_pos (by omega), if_pos rfl, if_pos rfl]
    show List.foldl (fun x p => x + cf s p * A p.1.toNat j) (A s.t.toNat j) s.ps = List.foldl (fun x p => x + cf s p * (if p.1.toNat < n then A p.1.toNat j else 0)) (if s.t.toNat < n then A s.t.toNat j else 0) s.ps
    rw [if_pos (show s.t.toNat < n by omega)]
    refine foldl_off (B := fun i j => if i < n then A i j else 0) s.ps _ fun p hp => ?_
    have := ok.p.pr p hp
    show _ = if p.1.toNat < n then A p.1.toNat j else 0
    rw [if_pos (by omega)]
  · rw [if_neg h, if_neg h]
theorem cut_rops {w : Int} {n : Nat} (hn : (n : Int) = w) : ∀ (st : List Stp) (A : Mat), (∀ s ∈ st, s.Okw w) → cutM n (rops st A) = rops st (cutM n A)
  | [], A, _ => rfl
  | s :: st, A, ok => by
    show cutM n (rops st (rop s A)) = rops st (rop s (cutM n A))
    rw [cut_rops hn st _ fun t ht => ok t (List.mem_cons_of_mem _ ht), cut_rop (ok s List.mem_cons_self) hn]
theorem id_cut {n : Nat} (A : Mat) : mulM n idM (cutM n A) = cutM n A := by
  funext i j
  unfold mulM
  by_cases hi : i < n
  · exact sumN_id n i hi fun k => cutM n A k j
  · rw [sumN_off n i (by omega) fun k => cutM n A k j]
    unfold cutM
    rw [if_neg hi]
theorem inverse {w : Int} {n : Nat} {st : List Stp} (hn : (n : Int) = w) (ok : ∀ s ∈ st, s.Okw w) {k i : Nat} (hk : k < n) : (sumN n fun j => rops (st.reverse.map turn1) idM k j * rops st idM j i) = idM k i := by
  have e1 : (sumN n fun j => rops (st.reverse.map turn1) idM k j * rops st idM j i) = mulM n (rops (st.reverse.map turn1) idM) (cutM n (rops st idM)) k i := by
    refine sumN_congr fun j hj => ?_
    show _ = _ * (if j < n then rops st idM j i else 0)
    rw [if_pos hj]
  rw [e1, mul_rops, id_cut, cut_rops hn st idM ok, rops_back (w := w) st fun s hs => ⟨(ok s hs).p, (ok s hs).t0⟩]
  unfold cutM
  rw [if_pos hk]
theorem prod2_rat (p q : Rat) : ((p.num * q.num : Int) : Rat) / ((p.den * q.den : Nat) : Rat) = p * q := by
  have h1 := den_ne p
  have h2 := den_ne q
  rw [Rat.intCast_mul, Rat.natCast_mul]
  conv => rhs; rw [rat_self p, rat_self q]
  grind
theorem law_b1_g {M : D → D → Option D} {Fn : List D → FR} {p q r z : D} {a b c d a1 a2 : Int} {x0 x1 x2 x3 x4 x5 x6 x7 x8 x9 x10 x14 : Sl} (p0 : ixD p (.int 0) = some (.int a)) (p1 : ixD p (.int 1) = some (.int b)) (q0 : ixD q (.int 0) = some (.int c)) (q1 : ixD q (.int 1) = some (.int d)) (m1 : M (.int a) (.int c) = some (.int a1)) (m2 : M (.int b) (.int d) = some (.int a2)) (el : Fn [z, .tup [.int a1, .int a2]] = .ret r (.l [])) :
    asgG (callF Fn 2 (pickG 2 0 [] [0, 1]) (consF (nameF 11) (consF (tupF (consF (op2F M (op2F ixD (nameF 12) (cF (.int 0))) (op2F ixD (nameF 13) (cF (.int 0)))) (consF (op2F M (op2F ixD (nameF 12) (cF (.int 1))) (op2F ixD (nameF 13) (cF (.int 1)))) nilF))) nilF)) nilF) (setA 11) [x0, x1, x2, x3, x4, x5, x6, x7, x8, x9, x10, .va z, .va p, .va q, x14] = .nx [x0, x1, x2, x3, x4, x5, x6, x7, x8, x9, x10, .va r, .va p, .va q, x14] := by
  simp only [ev_name, ev_c, ev_op2, ev_op1, ev_toR1, ev_toRL1, ev_nil, ev_cons, ev_opn, ev_opnN, ev_tup, ev_lst, ev_lstN, ev_new, ev_tst, ev_notT, ev_andT, ev_orT, ev_notF, ev_andF, ev_orF, ev_ifF, ev_yes, ev_iter, ev_rng1, ev_rng2, ev_rngW, ev_noP, ev_sl, ev_part, ev_next, ev_noG, ev_seq, ev_drop, ev_ret, ev_retN, ev_if, ev_asg, ev_setA, ev_nilA, ev_consA, ev_seqT, ev_seqL, ev_setN, ev_ok, ev_ioV, ev_ioU, ev_ioW, ev_owV, ev_owU, ev_own, ev_put, ev_ixOwn, ev_lenOwn, ev_setIx, ev_comp, ev_compL0, ev_compL1, ev_okC, ev_wipe1, ev_wipe0, ev_rest1, ev_rest0, ev_call, ev_callN, ev_ofr, ev_ofn, ev_ofnN, ev_mut, ev_mdl, ev_mdi, ev_io, ev_addI, ev_subI, ev_negI, ev_cmpI, ev_eqI, ev_neI, ev_eqS, ev_neS, ev_intI, ev_intB, ev_absI, ev_lenL, ev_lenT, ev_ixL, ev_ixT, ev_at0, ev_at1, ev_at2, ev_i30, ev_i31, ev_i32, ev_pk1, ev_pk2, ev_pk3, ev_pk4, ev_pkw1, ev_pkw2, ev_pkv2, ev_isI, ev_isN, ev_isB, ev_inI, ev_inN, ev_inB, ev_listT, ev_listL, ev_tupT, ev_tupL, ev_fld, ev_insAt, ev_fldOwn, ev_fldG, ev_meth, ev_make, ev_callL, ev_noLI, ev_nilL, ev_nameL, ev_lendL, ev_conL, ev_augIx, ev_putAt, ev_iadd, ev_isub, ev_revT, ev_enum, ev_zip, ev_seqDL, ev_seqDT, ev_nilM, ev_vaM, ev_owM, ev_parM, ev_app, ev_par, ev_par3, R.bind_ok, R.out_ok, Option.bind_some, List.getElem?_cons_succ, List.getElem?_cons_zero, List.set_cons_succ, List.set_cons_zero, List.length_cons, List.length_nil, Nat.reduceAdd, Nat.reduceEqDiff, List.getD_cons_succ, List.getD_cons_zero, decide_true, decide_false, Bool.and_true, Bool.and_self, and_self, true_and, List.all_cons, List.all_nil, Bool.not_true, Bool.not_false, if_true, Bool.true_eq_false, Bool.false_eq_true, if_false, p0, p1, q0, q1, m1, m2, sz2, el]
theorem fr_id2 (k i : Nat) : fr (idM k i) = .tup [.int (if decide ((k : Int) = (i : Int)) = true then 1 else 0), .int 1] := by
  rw [fr_id]
  by_cases h : i = k
  · subst h; rfl
  · rw [decide_eq_false (show ¬ (i : Int) = (k : Int) by omega), decide_eq_false (show ¬ (k : Int) = (i : Int) by omega)]
theorem dot2 {n V U : Nat} {A B : Mat} {k i : Nat} {x0 x1 x2 x3 x4 x5 x6 x7 x8 x9 x10 x14 : Sl} (hV : 0 < V) (hU : 0 < U) (hV2 : (V : Int) ≤ 2 ^ 80) (hU2 : (U : Int) ≤ 2 ^ 80) (hA : OvM V 108 A) (hB : OvM U 108 B) (hn : n ≤ 6) : ∀ (z11 y12 y13 : Sl), Pl y12 → Pl y13 → z11 = .va (.tup [.int 0, .int 1]) →
    ∃ z12 z13, forL (seqA 2 (consA (setA 12) (consA (setA 13) nilA))) g_law_b1 ((List.range n).map fun j => D.tup [fr (B k j), fr (A j i)]) [x0, x1, x2, x3, x4, x5, x6, x7, x8, x9, x10, z11, y12, y13, x14] = .nx [x0, x1, x2, x3, x4, x5, x6, x7, x8, x9, x10, .va (fr (sumN n fun j => B k j * A j i)), z12, z13, x14] ∧ Pl z12 ∧ Pl z13 := fun z11 y12 y13 q12 q13 hz => by
  subst hz
  have UV : 0 < U * V := Nat.mul_pos hU hV
  have UV2 : ((U * V : Nat) : Int) ≤ 2 ^ 400 := by
    have := Int.mul_le_mul hU2 hV2 (by omega) (by decide)
    rw [Int.natCast_mul]
    refine Int.le_trans this ?_
    decide
  obtain ⟨s', e, z5, z6, rfl, r5, r6⟩ := forL_run (a := seqA 2 (consA (setA 12) (consA (setA 13) nilA))) (G1 := g_law_b1)
    (I := fun m s' => ∃ z5 z6, s' = [x0, x1, x2, x3, x4, x5, x6, x7, x8, x9, x10, .va (fr (sumN m fun j => B k j * A j i)), z5, z6, x14] ∧ Pl z5 ∧ Pl z6)
    ((List.range n).map fun j => D.tup [fr (B k j), fr (A j i)]) 0 [x0, x1, x2, x3, x4, x5, x6, x7, x8, x9, x10, .va (.tup [.int 0, .int 1]), y12, y13, x14] ⟨y12, y13, rfl, q12, q13⟩ fun m e s' he i' => by
      obtain ⟨z5, z6, rfl, r5, r6⟩ := i'
      rw [Nat.zero_add]
      have hm : m < n := by
        have := (List.getElem?_eq_some_iff.mp he).1
        rwa [List.length_map, List.length_range] at this
      rw [List.getElem?_map, List.getElem?_range hm] at he
      cases he
      have sq := ov_sq ((ov_sum (fun j => (hB k j).mul (hA j i) hU hV) m)) UV UV2 (by omega)
      have sa := ov_sq (hA m i) hV (sz_le hV2) (by omega)
      have sb := ov_sq (hB k m) hU (sz_le hU2) (by omega)
      have m1 := mulW sb.1 sa.1 (by decide)
      have m2 := mulW sb.2 sa.2 (by decide)
      have ed : ((B k m).den : Int) * ((A m i).den : Int) = (((B k m).den * (A m i).den : Nat) : Int) := (Int.natCast_mul _ _).symm
      have sd : Sz 1000 (((B k m).den * (A m i).den : Nat) : Int) := by rw [← ed]; exact (sb.2.mul sa.2).mono (by decide)
      rw [ed] at m2
      have el := law_add (p := sumN m fun j => B k j * A j i) (c := (B k m).num * (A m i).num) (d := (B k m).den * (A m i).den) sq (Nat.mul_pos (den_pos _) (den_pos _)) ((sb.1.mul sa.1).mono (by decide)) sd
      rw [prod2_rat] at el
      refine ⟨[x0, x1, x2, x3, x4, x5, x6, x7, x8, x9, x10, .va (fr (sumN m fun j => B k j * A j i)), .va (fr (B k m)), .va (fr (A m i)), x14], _, ?_, .inl (law_b1_g (fr_ix0 _) (fr_ix1 _) (fr_ix0 _) (fr_ix1 _) m1 m2 el), .va (fr (B k m)), .va (fr (A m i)), rfl, Pl.va, Pl.va⟩
      simp only [ev_name, ev_c, ev_op2, ev_op1, ev_toR1, ev_toRL1, ev_nil, ev_cons, ev_opn, ev_opnN, ev_tup, ev_lst, ev_lstN, ev_new, ev_tst, ev_notT, ev_andT, ev_orT, ev_notF, ev_andF, ev_orF, ev_ifF, ev_yes, ev_iter, ev_rng1, ev_rng2, ev_rngW, ev_noP, ev_sl, ev_part, ev_next, ev_noG, ev_seq, ev_drop, ev_ret, ev_retN, ev_if, ev_asg, ev_setA, ev_nilA, ev_consA, ev_seqT, ev_seqL, ev_setN, ev_ok, ev_ioV, ev_ioU, ev_ioW, ev_owV, ev_owU, ev_own, ev_put, ev_ixOwn, ev_lenOwn, ev_setIx, ev_comp, ev_compL0, ev_compL1, ev_okC, ev_wipe1, ev_wipe0, ev_rest1, ev_rest0, ev_call, ev_callN, ev_ofr, ev_ofn, ev_ofnN, ev_mut, ev_mdl, ev_mdi, ev_io, ev_addI, ev_subI, ev_negI, ev_cmpI, ev_eqI, ev_neI, ev_eqS, ev_neS, ev_intI, ev_intB, ev_absI, ev_lenL, ev_lenT, ev_ixL, ev_ixT, ev_at0, ev_at1, ev_at2, ev_i30, ev_i31, ev_i32, ev_pk1, ev_pk2, ev_pk3, ev_pk4, ev_pkw1, ev_pkw2, ev_pkv2, ev_isI, ev_isN, ev_isB, ev_inI, ev_inN, ev_inB, ev_listT, ev_listL, ev_tupT, ev_tupL, ev_fld, ev_insAt, ev_fldOwn, ev_fldG, ev_meth, ev_make, ev_callL, ev_noLI, ev_nilL, ev_nameL, ev_lendL, ev_conL, ev_augIx, ev_putAt, ev_iadd, ev_isub, ev_revT, ev_enum, ev_zip, ev_seqDL, ev_seqDT, ev_nilM, ev_vaM, ev_owM, ev_parM, ev_app, ev_par, ev_par3, R.bind_ok, R.out_ok, Option.bind_some, List.getElem?_cons_succ, List.getElem?_cons_zero, List.set_cons_succ, List.set_cons_zero, List.length_cons, List.length_nil, Nat.reduceAdd, Nat.reduceEqDiff, List.getD_cons_succ, List.getD_cons_zero, decide_true, decide_false, Bool.and_true, Bool.and_self, and_self, true_and, List.all_cons, List.all_nil, Bool.not_true, Bool.not_false, if_true, Bool.true_eq_false, Bool.false_eq_true, if_false, r5.1, r6.1]
  rw [List.length_map, List.length_range, Nat.zero_add] at e
  exact ⟨z5, z6, e, r5, r6⟩
end Fx

set_option Elab.async false
set_option linter.all false
set_option maxRecDepth 100000
namespace Fx
open PySem L2 PyProof.Rows
set_option maxHeartbeats 1000000
/-! ### the last lift -/
def stL : List Stp := [⟨0, [(1, -1)], 0, 1⟩, ⟨1, [(0, 1)], 5, 2⟩]
theorem lastOk : ∀ s ∈ stL, s.Okw 2 := by
  intro s hs
  simp only [stL, List.mem_cons, List.not_mem_nil, or_false] at hs
  rcases hs with rfl | rfl
  · exact ⟨by decide, by decide, ⟨fun p hp => by simp only [List.mem_cons, List.not_mem_nil, or_false] at hp; subst hp; decide, List.pairwise_singleton _ _⟩, by decide, by decide, by decide⟩
  · exact ⟨by decide, by decide, ⟨fun p hp => by simp only [List.mem_cons, List.not_mem_nil, or_false] at hp; subst hp; decide, List.pairwise_singleton _ _⟩, by decide, by decide, by decide⟩
theorem lastMk : F_Lift___init__ [.ins "Lift" [], .int 2, .lst [.tup [.int 0, .lst [.tup [.int 1, .int (-1)]], .int 0, .int 1], .tup [.int 1, .lst [.tup [.int 0, .int 1]], .int 5, .int 2]]] = .ret .non (.i "Lift" [("width", .int 2), ("steps", stD stL)]) := by rfl
theorem fr_of {q : Rat} {a : Int} {b : Nat} (h1 : q.num = a) (h2 : q.den = b) : fr q = .tup [.int a, .int (b : Int)] := by
  unfold fr
  rw [h1, h2]
theorem lastM : matT 2 (rops stL idM) = .tup [.tup [.tup [.int 1, .int 1], .tup [.int (-1), .int 1]], .tup [.tup [.int 1, .int 2], .tup [.int 1, .int 2]]] := by
  have e00 : fr (rops stL idM 0 0) = .tup [.int 1, .int 1] := fr_of (b := 1) (by decide +kernel) (by decide +kernel)
  have e01 : fr (rops stL idM 0 1) = .tup [.int (-1), .int 1] := fr_of (b := 1) (by decide +kernel) (by decide +kernel)
  have e10 : fr (rops stL idM 1 0) = .tup [.int 1, .int 2] := fr_of (b := 2) (by decide +kernel) (by decide +kernel)
  have e11 : fr (rops stL idM 1 1) = .tup [.int 1, .int 2] := fr_of (b := 2) (by decide +kernel) (by decide +kernel)
  show D.tup [.tup [fr (rops stL idM 0 0), fr (rops stL idM 0 1)], .tup [fr (rops stL idM 1 0), fr (rops stL idM 1 1)]] = _
  rw [e00, e01, e10, e11]
/-! ### rows times a column, in the law -/
theorem mat_ix {n k : Nat} {B : Mat} (h : k < n) : ixD (matT n B) (.int (k : Int)) = some (.tup (rowD n (B k))) := by
  show atD ((List.range n).map fun i => .tup (rowD n (B i))) (k : Int) = _
  refine at_nat (by omega) ?_
  rw [Int.toNat_natCast, List.getElem?_map, List.getElem?_range h]
  rfl
theorem law_b2_g {Z : F (List D)} {B : G} {its : List D} {r x6 x10 : D} {a : Int} {x0 x1 x2 x3 x4 x5 x7 x8 x9 y11 y12 y13 z12 z13 x14 : Sl} {i k : Int} (q11 : Pl y11)
    (zs : Z [x0, x1, x2, x3, x4, x5, .va (.int i), x7, x8, x9, .va (.int k), .va (.tup [.int 0, .int 1]), y12, y13, x14] = .ok its [x0, x1, x2, x3, x4, x5, .va (.int i), x7, x8, x9, .va (.int k), .va (.tup [.int 0, .int 1]), y12, y13, x14])
    (e : forL (seqA 2 (consA (setA 12) (consA (setA 13) nilA))) B its [x0, x1, x2, x3, x4, x5, .va (.int i), x7, x8, x9, .va (.int k), .va (.tup [.int 0, .int 1]), y12, y13, x14] = .nx [x0, x1, x2, x3, x4, x5, .va (.int i), x7, x8, x9, .va (.int k), .va r, z12, z13, x14])
    (en : neD r (.tup [.int (if decide (k = i) = true then 1 else 0), .int 1]) = some (.bl false)) :
    (seqG (asgG (tupF (consF (cF (.int 0)) (consF (cF (.int 1)) nilF))) (setA 11)) (seqG (forG Z (seqA 2 (consA (setA 12) (consA (setA 13) nilA))) B) (ifG (tstF (op2F neD (nameF 11) (tupF (consF (opnF intD (consF (op2F eqD (nameF 10) (nameF 6)) nilF)) (consF (cF (.int 1)) nilF))))) (retG (cF (.bl false))) nextG)))
      [x0, x1, x2, x3, x4, x5, .va (.int i), x7, x8, x9, .va (.int k), y11, y12, y13, x14] = .nx [x0, x1, x2, x3, x4, x5, .va (.int i), x7, x8, x9, .va (.int k), .va r, z12, z13, x14] := by
  simp only [ev_name, ev_c, ev_op2, ev_op1, ev_toR1, ev_toRL1, ev_nil, ev_cons, ev_opn, ev_opnN, ev_tup, ev_lst, ev_lstN, ev_new, ev_tst, ev_notT, ev_andT, ev_orT, ev_notF, ev_andF, ev_orF, ev_ifF, ev_yes, ev_iter, ev_rng1, ev_rng2, ev_rngW, ev_noP, ev_sl, ev_part, ev_next, ev_noG, ev_seq, ev_drop, ev_ret, ev_retN, ev_if, ev_asg, ev_setA, ev_nilA, ev_consA, ev_seqT, ev_seqL, ev_setN, ev_ok, ev_ioV, ev_ioU, ev_ioW, ev_owV, ev_owU, ev_own, ev_put, ev_ixOwn, ev_lenOwn, ev_setIx, ev_comp, ev_compL0, ev_compL1, ev_okC, ev_wipe1, ev_wipe0, ev_rest1, ev_rest0, ev_call, ev_callN, ev_ofr, ev_ofn, ev_ofnN, ev_mut, ev_mdl, ev_mdi, ev_io, ev_addI, ev_subI, ev_negI, ev_cmpI, ev_eqI, ev_neI, ev_eqS, ev_neS, ev_intI, ev_intB, ev_absI, ev_lenL, ev_lenT, ev_ixL, ev_ixT, ev_at0, ev_at1, ev_at2, ev_i30, ev_i31, ev_i32, ev_pk1, ev_pk2, ev_pk3, ev_pk4, ev_pkw1, ev_pkw2, ev_pkv2, ev_isI, ev_isN, ev_isB, ev_inI, ev_inN, ev_inB, ev_listT, ev_listL, ev_tupT, ev_tupL, ev_fld, ev_insAt, ev_fldOwn, ev_fldG, ev_meth, ev_make, ev_callL, ev_noLI, ev_nilL, ev_nameL, ev_lendL, ev_conL, ev_augIx, ev_putAt, ev_iadd, ev_isub, ev_revT, ev_enum, ev_zip, ev_seqDL, ev_seqDT, ev_nilM, ev_vaM, ev_owM, ev_parM, ev_app, ev_par, ev_par3, R.bind_ok, R.out_ok, Option.bind_some, List.getElem?_cons_succ, List.getElem?_cons_zero, List.set_cons_succ, List.set_cons_zero, List.length_cons, List.length_nil, Nat.reduceAdd, Nat.reduceEqDiff, List.getD_cons_succ, List.getD_cons_zero, decide_true, decide_false, Bool.and_true, Bool.and_self, and_self, true_and, List.all_cons, List.all_nil, Bool.not_true, Bool.not_false, if_true, Bool.true_eq_false, Bool.false_eq_true, if_false, ev_for, sz2, q11.1, zs, e, en]
theorem law_b2P {n V U : Nat} {A B : Mat} {i k : Nat} {x0 x1 x2 x3 x4 x5 x7 y11 y12 y13 x14 : Sl} (hV : 0 < V) (hU : 0 < U) (hV2 : (V : Int) ≤ 2 ^ 80) (hU2 : (U : Int) ≤ 2 ^ 80) (hA : OvM V 108 A) (hB : OvM U 108 B) (hn : n ≤ 6) (hk : k < n) (inv : (sumN n fun j => B k j * A j i) = idM k i) (q11 : Pl y11) (q12 : Pl y12) (q13 : Pl y13) :
    ∃ z11 z12 z13, g_law_b2 [x0, x1, x2, x3, x4, x5, .va (.int (i : Int)), x7, .va (matT n B), .va (.lst (rowD n fun r => A r i)), .va (.int (k : Int)), y11, y12, y13, x14] = .nx [x0, x1, x2, x3, x4, x5, .va (.int (i : Int)), x7, .va (matT n B), .va (.lst (rowD n fun r => A r i)), .va (.int (k : Int)), z11, z12, z13, x14] ∧ Pl z11 ∧ Pl z12 ∧ Pl z13 := by
  obtain ⟨z12, z13, e, r12, r13⟩ := dot2 (k := k) (i := i) (x0 := x0) (x1 := x1) (x2 := x2) (x3 := x3) (x4 := x4) (x5 := x5) (x6 := .va (.int (i : Int))) (x7 := x7) (x8 := .va (matT n B)) (x9 := .va (.lst (rowD n fun r => A r i))) (x10 := .va (.int (k : Int))) (x14 := x14) hV hU hV2 hU2 hA hB hn _ y12 y13 q12 q13 rfl
  rw [inv] at e
  have src : zipD (rowD n (B k)) (rowD n fun r => A r i) = (List.range n).map fun j => .tup [fr (B k j), fr (A j i)] := by
    unfold rowD
    rw [zipD_map, zip_same, List.map_map]
    rfl
  have zs : zipF (op2F ixD (nameF 8) (nameF 10)) (nameF 9) [x0, x1, x2, x3, x4, x5, .va (.int (i : Int)), x7, .va (matT n B), .va (.lst (rowD n fun r => A r i)), .va (.int (k : Int)), .va (.tup [.int 0, .int 1]), y12, y13, x14] = .ok ((List.range n).map fun j => .tup [fr (B k j), fr (A j i)]) [x0, x1, x2, x3, x4, x5, .va (.int (i : Int)), x7, .va (matT n B), .va (.lst (rowD n fun r => A r i)), .va (.int (k : Int)), .va (.tup [.int 0, .int 1]), y12, y13, x14] := by
    have mi := mat_ix (B := B) hk
    rw [← src]
    generalize matT n B = MB at mi ⊢
    simp only [ev_name, ev_c, ev_op2, ev_op1, ev_toR1, ev_toRL1, ev_nil, ev_cons, ev_opn, ev_opnN, ev_tup, ev_lst, ev_lstN, ev_new, ev_tst, ev_notT, ev_andT, ev_orT, ev_notF, ev_andF, ev_orF, ev_ifF, ev_yes, ev_iter, ev_rng1, ev_rng2, ev_rngW, ev_noP, ev_sl, ev_part, ev_next, ev_noG, ev_seq, ev_drop, ev_ret, ev_retN, ev_if, ev_asg, ev_setA, ev_nilA, ev_consA, ev_seqT, ev_seqL, ev_setN, ev_ok, ev_ioV, ev_ioU, ev_ioW, ev_owV, ev_owU, ev_own, ev_put, ev_ixOwn, ev_lenOwn, ev_setIx, ev_comp, ev_compL0, ev_compL1, ev_okC, ev_wipe1, ev_wipe0, ev_rest1, ev_rest0, ev_call, ev_callN, ev_ofr, ev_ofn, ev_ofnN, ev_mut, ev_mdl, ev_mdi, ev_io, ev_addI, ev_subI, ev_negI, ev_cmpI, ev_eqI, ev_neI, ev_eqS, ev_neS, ev_intI, ev_intB, ev_absI, ev_lenL, ev_lenT, ev_ixL, ev_ixT, ev_at0, ev_at1, ev_at2, ev_i30, ev_i31, ev_i32, ev_pk1, ev_pk2, ev_pk3, ev_pk4, ev_pkw1, ev_pkw2, ev_pkv2, ev_isI, ev_isN, ev_isB, ev_inI, ev_inN, ev_inB, ev_listT, ev_listL, ev_tupT, ev_tupL, ev_fld, ev_insAt, ev_fldOwn, ev_fldG, ev_meth, ev_make, ev_callL, ev_noLI, ev_nilL, ev_nameL, ev_lendL, ev_conL, ev_augIx, ev_putAt, ev_iadd, ev_isub, ev_revT, ev_enum, ev_zip, ev_seqDL, ev_seqDT, ev_nilM, ev_vaM, ev_owM, ev_parM, ev_app, ev_par, ev_par3, R.bind_ok, R.out_ok, Option.bind_some, List.getElem?_cons_succ, List.getElem?_cons_zero, List.set_cons_succ, List.set_cons_zero, List.length_cons, List.length_nil, Nat.reduceAdd, Nat.reduceEqDiff, List.getD_cons_succ, List.getD_cons_zero, decide_true, decide_false, Bool.and_true, Bool.and_self, and_self, true_and, List.all_cons, List.all_nil, Bool.not_true, Bool.not_false, if_true, Bool.true_eq_false, Bool.false_eq_true, if_false, mi]
  refine ⟨.va (fr (idM k i)), z12, z13, ?_, Pl.va, r12, r13⟩
  unfold g_law_b2
  refine law_b2_g (r := fr (idM k i)) (i := (i : Int)) (k := (k : Int)) (x6 := .non) (x10 := .non) (a := 0) q11 zs e ?_
  rw [← fr_id2]
  exact ne_same (by rfl) (by exact Nat.le_of_ble_eq_true rfl)
theorem law_b3P {n V U : Nat} {w : Int} {A B : Mat} {i : Nat} {x0 x1 x2 x4 x5 x7 y10 y11 y12 y13 x14 : Sl} (hw : (n : Int) = w) (hV : 0 < V) (hU : 0 < U) (hV2 : (V : Int) ≤ 2 ^ 80) (hU2 : (U : Int) ≤ 2 ^ 80) (hA : OvM V 108 A) (hB : OvM U 108 B) (hn : n ≤ 6) (inv : ∀ k, k < n → (sumN n fun j => B k j * A j i) = idM k i) (q10 : Pl y10) (q11 : Pl y11) (q12 : Pl y12) (q13 : Pl y13) :
    ∃ z10 z11 z12 z13, g_law_b3 [x0, x1, x2, .va (.int w), x4, x5, .va (.int (i : Int)), x7, .va (matT n B), .va (.lst (rowD n fun r => A r i)), y10, y11, y12, y13, x14] = .nx [x0, x1, x2, .va (.int w), x4, x5, .va (.int (i : Int)), x7, .va (matT n B), .va (.lst (rowD n fun r => A r i)), z10, z11, z12, z13, x14] ∧ Pl z10 ∧ Pl z11 ∧ Pl z12 ∧ Pl z13 := by
  obtain ⟨s', e, z10, z11, z12, z13, rfl, r10, r11, r12, r13⟩ := forL_run (a := setA 10) (G1 := g_law_b2)
    (I := fun _ s' => ∃ z10 z11 z12 z13, s' = [x0, x1, x2, .va (.int w), x4, x5, .va (.int (i : Int)), x7, .va (matT n B), .va (.lst (rowD n fun r => A r i)), z10, z11, z12, z13, x14] ∧ Pl z10 ∧ Pl z11 ∧ Pl z12 ∧ Pl z13)
    (rngD 0 w) 0 _ ⟨y10, y11, y12, y13, rfl, q10, q11, q12, q13⟩ fun m d s' e hi => by
      obtain ⟨z10, z11, z12, z13, rfl, r10, r11, r12, r13⟩ := hi
      have hm : m < n := by
        have := (List.getElem?_eq_some_iff.mp e).1
        rw [rngD_length] at this
        omega
      have := rngD_get e
      subst this
      rw [Int.zero_add]
      obtain ⟨u11, u12, u13, e2, t11, t12, t13⟩ := law_b2P (x0 := x0) (x1 := x1) (x2 := x2) (x3 := .va (.int w)) (x4 := x4) (x5 := x5) (x7 := x7) (x14 := x14) hV hU hV2 hU2 hA hB hn hm (inv m hm) r11 r12 r13
      refine ⟨[x0, x1, x2, .va (.int w), x4, x5, .va (.int (i : Int)), x7, .va (matT n B), .va (.lst (rowD n fun r => A r i)), .va (.int (m : Int)), z11, z12, z13, x14], _, ?_, .inl e2, .va (.int (m : Int)), u11, u12, u13, rfl, Pl.va, t11, t12, t13⟩
      simp only [ev_name, ev_c, ev_op2, ev_op1, ev_toR1, ev_toRL1, ev_nil, ev_cons, ev_opn, ev_opnN, ev_tup, ev_lst, ev_lstN, ev_new, ev_tst, ev_notT, ev_andT, ev_orT, ev_notF, ev_andF, ev_orF, ev_ifF, ev_yes, ev_iter, ev_rng1, ev_rng2, ev_rngW, ev_noP, ev_sl, ev_part, ev_next, ev_noG, ev_seq, ev_drop, ev_ret, ev_retN, ev_if, ev_asg, ev_setA, ev_nilA, ev_consA, ev_seqT, ev_seqL, ev_setN, ev_ok, ev_ioV, ev_ioU, ev_ioW, ev_owV, ev_owU, ev_own, ev_put, ev_ixOwn, ev_lenOwn, ev_setIx, ev_comp, ev_compL0, ev_compL1, ev_okC, ev_wipe1, ev_wipe0, ev_rest1, ev_rest0, ev_call, ev_callN, ev_ofr, ev_ofn, ev_ofnN, ev_mut, ev_mdl, ev_mdi, ev_io, ev_addI, ev_subI, ev_negI, ev_cmpI, ev_eqI, ev_neI, ev_eqS, ev_neS, ev_intI, ev_intB, ev_absI, ev_lenL, ev_lenT, ev_ixL, ev_ixT, ev_at0, ev_at1, ev_at2, ev_i30, ev_i31, ev_i32, ev_pk1, ev_pk2, ev_pk3, ev_pk4, ev_pkw1, ev_pkw2, ev_pkv2, ev_isI, ev_isN, ev_isB, ev_inI, ev_inN, ev_inB, ev_listT, ev_listL, ev_tupT, ev_tupL, ev_fld, ev_insAt, ev_fldOwn, ev_fldG, ev_meth, ev_make, ev_callL, ev_noLI, ev_nilL, ev_nameL, ev_lendL, ev_conL, ev_augIx, ev_putAt, ev_iadd, ev_isub, ev_revT, ev_enum, ev_zip, ev_seqDL, ev_seqDT, ev_nilM, ev_vaM, ev_owM, ev_parM, ev_app, ev_par, ev_par3, R.bind_ok, R.out_ok, Option.bind_some, List.getElem?_cons_succ, List.getElem?_cons_zero, List.set_cons_succ, List.set_cons_zero, List.length_cons, List.length_nil, Nat.reduceAdd, Nat.reduceEqDiff, List.getD_cons_succ, List.getD_cons_zero, decide_true, decide_false, Bool.and_true, Bool.and_self, and_self, true_and, List.all_cons, List.all_nil, Bool.not_true, Bool.not_false, if_true, Bool.true_eq_false, Bool.false_eq_true, if_false, r10.1]
  have sm := sm_small (w := w) (by omega) (by omega)
  refine ⟨z10, z11, z12, z13, ?_, r10, r11, r12, r13⟩
  unfold g_law_b3
  generalize g_law_b2 = B2 at e ⊢
  generalize matT n B = MB at e ⊢
  generalize D.lst (rowD n fun r => A r i) = C at e ⊢
  simp only [ev_name, ev_c, ev_op2, ev_op1, ev_toR1, ev_toRL1, ev_nil, ev_cons, ev_opn, ev_opnN, ev_tup, ev_lst, ev_lstN, ev_new, ev_tst, ev_notT, ev_andT, ev_orT, ev_notF, ev_andF, ev_orF, ev_ifF, ev_yes, ev_iter, ev_rng1, ev_rng2, ev_rngW, ev_noP, ev_sl, ev_part, ev_next, ev_noG, ev_seq, ev_drop, ev_ret, ev_retN, ev_if, ev_asg, ev_setA, ev_nilA, ev_consA, ev_seqT, ev_seqL, ev_setN, ev_ok, ev_ioV, ev_ioU, ev_ioW, ev_owV, ev_owU, ev_own, ev_put, ev_ixOwn, ev_lenOwn, ev_setIx, ev_comp, ev_compL0, ev_compL1, ev_okC, ev_wipe1, ev_wipe0, ev_rest1, ev_rest0, ev_call, ev_callN, ev_ofr, ev_ofn, ev_ofnN, ev_mut, ev_mdl, ev_mdi, ev_io, ev_addI, ev_subI, ev_negI, ev_cmpI, ev_eqI, ev_neI, ev_eqS, ev_neS, ev_intI, ev_intB, ev_absI, ev_lenL, ev_lenT, ev_ixL, ev_ixT, ev_at0, ev_at1, ev_at2, ev_i30, ev_i31, ev_i32, ev_pk1, ev_pk2, ev_pk3, ev_pk4, ev_pkw1, ev_pkw2, ev_pkv2, ev_isI, ev_isN, ev_isB, ev_inI, ev_inN, ev_inB, ev_listT, ev_listL, ev_tupT, ev_tupL, ev_fld, ev_insAt, ev_fldOwn, ev_fldG, ev_meth, ev_make, ev_callL, ev_noLI, ev_nilL, ev_nameL, ev_lendL, ev_conL, ev_augIx, ev_putAt, ev_iadd, ev_isub, ev_revT, ev_enum, ev_zip, ev_seqDL, ev_seqDT, ev_nilM, ev_vaM, ev_owM, ev_parM, ev_app, ev_par, ev_par3, R.bind_ok, R.out_ok, Option.bind_some, List.getElem?_cons_succ, List.getElem?_cons_zero, List.set_cons_succ, List.set_cons_zero, List.length_cons, List.length_nil, Nat.reduceAdd, Nat.reduceEqDiff, List.getD_cons_succ, List.getD_cons_zero, decide_true, decide_false, Bool.and_true, Bool.and_self, and_self, true_and, List.all_cons, List.all_nil, Bool.not_true, Bool.not_false, if_true, Bool.true_eq_false, Bool.false_eq_true, if_false, ev_for, sm, e]
end Fx

set_option Elab.async false
set_option linter.all false
set_option maxRecDepth 100000
namespace Fx
open PySem L2 PyProof.Rows
set_option maxHeartbeats 1000000
/-! ### what repr can show of rows -/
theorem shOkL_map {α : Type} {f : α → D} : ∀ {xs : List α}, (∀ x ∈ xs, shOk (f x) = true) → shOkL (xs.map f) = true
  | [], _ => rfl
  | x :: xs, h => by
    rw [List.map_cons]
    unfold shOkL
    rw [h x List.mem_cons_self, shOkL_map fun y hy => h y (List.mem_cons_of_mem _ hy)]
    rfl
theorem shSzL_map {α : Type} {f : α → D} {m : Nat} : ∀ {xs : List α}, (∀ x ∈ xs, shSz (f x) ≤ m) → shSzL (xs.map f) ≤ (m + 2) * xs.length
  | [], _ => Nat.zero_le _
  | x :: xs, h => by
    rw [List.map_cons]
    unfold shSzL
    have h1 := h x List.mem_cons_self
    have h2 := shSzL_map fun y hy => h y (List.mem_cons_of_mem _ hy)
    rw [List.length_cons, Nat.mul_add]
    omega
theorem sz_log {k : Nat} {i : Int} (h : Sz k i) (hk : k ≤ 1000) : i.natAbs.log2 < 1920 := by
  rcases Nat.eq_zero_or_pos i.natAbs with h0 | h0
  · rw [h0]; decide
  · have h1 := h.nat
    exact (Nat.log2_lt (by omega)).mpr (Nat.lt_of_lt_of_le h1 (Nat.pow_le_pow_right (by decide) (by omega)))
theorem repr_mat {n : Nat} {A : Mat} (hn : n ≤ 6) (h : ∀ i j, Sq (A i j)) : ∃ z, reprD [matT n A] = some (.str z) := by
  have k1 : ∀ i j, shOk (fr (A i j)) = true := fun i j => by
    unfold fr shOk shOkL
    have h1 := sz_log (h i j).1 (by decide)
    have h2 := sz_log (h i j).2 (by decide)
    unfold shOkL shOk
    rw [decide_eq_true h1, decide_eq_true h2]
    rfl
  have k2 : ∀ i, shSz (.tup (rowD n (A i))) ≤ 24000 := fun i => by
    have := shSzL_map (f := fun j => fr (A i j)) (m := 3849) (xs := List.range n) fun j _ => Nat.le_of_ble_eq_true rfl
    rw [List.length_range] at this
    have e : (3849 + 2) * n ≤ 3851 * 6 := Nat.mul_le_mul_left _ hn
    show shSzL (rowD n (A i)) + 3 ≤ 24000
    unfold rowD
    omega
  have k3 : ∀ i, shDp (.tup (rowD n (A i))) ≤ 2 := fun i => by
    have := shDpL_map (f := fun j => fr (A i j)) (m := 1) (xs := List.range n) fun j _ => Nat.le_refl 1
    show shDpL (rowD n (A i)) + 1 ≤ 2
    unfold rowD
    omega
  refine repr_of ?_ ?_ ?_
  · show shOkL _ = true
    refine shOkL_map fun i _ => ?_
    show shOkL (rowD n (A i)) = true
    unfold rowD
    exact shOkL_map fun j _ => k1 i j
  · have := shDpL_map (f := fun i => .tup (rowD n (A i))) (m := 2) (xs := List.range n) fun i _ => k3 i
    show shDpL ((List.range n).map fun i => .tup (rowD n (A i))) + 1 < 60
    omega
  · have := shSzL_map (f := fun i => .tup (rowD n (A i))) (m := 24000) (xs := List.range n) fun i _ => k2 i
    rw [List.length_range] at this
    have e : (24000 + 2) * n ≤ 24002 * 6 := Nat.mul_le_mul_left _ hn
    show shSzL ((List.range n).map fun i => .tup (rowD n (A i))) + 3 ≤ 16777216
    omega
/-! ### one lift tried -/
theorem pen0 {ns : List Int} (h : ns.length ≤ 63) : F__law_pen [.fz (ns.map D.int)] = .retn [.lst (ns.map D.int), .int 0, .int 0] (.l []) := by
  have e : slD (.fz (ns.map D.int)) none (some 63) = some (.lst (ns.map D.int)) := by
    show some (D.lst (cutD (ns.map D.int) none (some 63))) = _
    unfold cutD
    rw [HT.sIx_none, show HT.sIx (ns.map D.int).length (ns.map D.int).length (some 63) = min 63 (ns.map D.int).length from HT.sIx_nat _ _ 63, List.drop_zero, Nat.sub_zero, List.take_of_length_le (by rw [List.length_map]; omega)]
  show outF false (g__law_pen [.va (.fz (ns.map D.int))]) = _
  simp only [g__law_pen, ev_name, ev_c, ev_op2, ev_op1, ev_toR1, ev_toRL1, ev_nil, ev_cons, ev_opn, ev_opnN, ev_tup, ev_lst, ev_lstN, ev_new, ev_tst, ev_notT, ev_andT, ev_orT, ev_notF, ev_andF, ev_orF, ev_ifF, ev_yes, ev_iter, ev_rng1, ev_rng2, ev_rngW, ev_noP, ev_sl, ev_part, ev_next, ev_noG, ev_seq, ev_drop, ev_ret, ev_retN, ev_if, ev_asg, ev_setA, ev_nilA, ev_consA, ev_seqT, ev_seqL, ev_setN, ev_ok, ev_ioV, ev_ioU, ev_ioW, ev_owV, ev_owU, ev_own, ev_put, ev_ixOwn, ev_lenOwn, ev_setIx, ev_comp, ev_compL0, ev_compL1, ev_okC, ev_wipe1, ev_wipe0, ev_rest1, ev_rest0, ev_call, ev_callN, ev_ofr, ev_ofn, ev_ofnN, ev_mut, ev_mdl, ev_mdi, ev_io, ev_addI, ev_subI, ev_negI, ev_cmpI, ev_eqI, ev_neI, ev_eqS, ev_neS, ev_intI, ev_intB, ev_absI, ev_lenL, ev_lenT, ev_ixL, ev_ixT, ev_at0, ev_at1, ev_at2, ev_i30, ev_i31, ev_i32, ev_pk1, ev_pk2, ev_pk3, ev_pk4, ev_pkw1, ev_pkw2, ev_pkv2, ev_isI, ev_isN, ev_isB, ev_inI, ev_inN, ev_inB, ev_listT, ev_listL, ev_tupT, ev_tupL, ev_fld, ev_insAt, ev_fldOwn, ev_fldG, ev_meth, ev_make, ev_callL, ev_noLI, ev_nilL, ev_nameL, ev_lendL, ev_conL, ev_augIx, ev_putAt, ev_iadd, ev_isub, ev_revT, ev_enum, ev_zip, ev_seqDL, ev_seqDT, ev_nilM, ev_vaM, ev_owM, ev_parM, ev_app, ev_par, ev_par3, R.bind_ok, R.out_ok, Option.bind_some, List.getElem?_cons_succ, List.getElem?_cons_zero, List.set_cons_succ, List.set_cons_zero, List.length_cons, List.length_nil, Nat.reduceAdd, Nat.reduceEqDiff, List.getD_cons_succ, List.getD_cons_zero, decide_true, decide_false, Bool.and_true, Bool.and_self, and_self, true_and, List.all_cons, List.all_nil, Bool.not_true, Bool.not_false, if_true, Bool.true_eq_false, Bool.false_eq_true, if_false, e, sz3]
  rfl
theorem most_of {j : Int} {s : List Sl} (h : nameF 2 s = .ok (.int j) s) : ∃ m : Int, 0 ≤ m ∧ m ≤ 12 ∧ ifF (tstF (op2F eqD (nameF 2) (cF (.int 0)))) (cF (.int 12)) (cF (.int 4)) s = .ok (.int m) s := by
  by_cases hj : j = 0
  · refine ⟨12, by decide, by decide, ?_⟩
    have d : decide (j = 0) = true := decide_eq_true hj
    generalize nameF 2 = N at h ⊢
    simp only [ev_name, ev_c, ev_op2, ev_op1, ev_toR1, ev_toRL1, ev_nil, ev_cons, ev_opn, ev_opnN, ev_tup, ev_lst, ev_lstN, ev_new, ev_tst, ev_notT, ev_andT, ev_orT, ev_notF, ev_andF, ev_orF, ev_ifF, ev_yes, ev_iter, ev_rng1, ev_rng2, ev_rngW, ev_noP, ev_sl, ev_part, ev_next, ev_noG, ev_seq, ev_drop, ev_ret, ev_retN, ev_if, ev_asg, ev_setA, ev_nilA, ev_consA, ev_seqT, ev_seqL, ev_setN, ev_ok, ev_ioV, ev_ioU, ev_ioW, ev_owV, ev_owU, ev_own, ev_put, ev_ixOwn, ev_lenOwn, ev_setIx, ev_comp, ev_compL0, ev_compL1, ev_okC, ev_wipe1, ev_wipe0, ev_rest1, ev_rest0, ev_call, ev_callN, ev_ofr, ev_ofn, ev_ofnN, ev_mut, ev_mdl, ev_mdi, ev_io, ev_addI, ev_subI, ev_negI, ev_cmpI, ev_eqI, ev_neI, ev_eqS, ev_neS, ev_intI, ev_intB, ev_absI, ev_lenL, ev_lenT, ev_ixL, ev_ixT, ev_at0, ev_at1, ev_at2, ev_i30, ev_i31, ev_i32, ev_pk1, ev_pk2, ev_pk3, ev_pk4, ev_pkw1, ev_pkw2, ev_pkv2, ev_isI, ev_isN, ev_isB, ev_inI, ev_inN, ev_inB, ev_listT, ev_listL, ev_tupT, ev_tupL, ev_fld, ev_insAt, ev_fldOwn, ev_fldG, ev_meth, ev_make, ev_callL, ev_noLI, ev_nilL, ev_nameL, ev_lendL, ev_conL, ev_augIx, ev_putAt, ev_iadd, ev_isub, ev_revT, ev_enum, ev_zip, ev_seqDL, ev_seqDT, ev_nilM, ev_vaM, ev_owM, ev_parM, ev_app, ev_par, ev_par3, R.bind_ok, R.out_ok, Option.bind_some, List.getElem?_cons_succ, List.getElem?_cons_zero, List.set_cons_succ, List.set_cons_zero, List.length_cons, List.length_nil, Nat.reduceAdd, Nat.reduceEqDiff, List.getD_cons_succ, List.getD_cons_zero, decide_true, decide_false, Bool.and_true, Bool.and_self, and_self, true_and, List.all_cons, List.all_nil, Bool.not_true, Bool.not_false, if_true, Bool.true_eq_false, Bool.false_eq_true, if_false, h, d]
  · refine ⟨4, by decide, by decide, ?_⟩
    have d : decide (j = 0) = false := decide_eq_false hj
    generalize nameF 2 = N at h ⊢
    simp only [ev_name, ev_c, ev_op2, ev_op1, ev_toR1, ev_toRL1, ev_nil, ev_cons, ev_opn, ev_opnN, ev_tup, ev_lst, ev_lstN, ev_new, ev_tst, ev_notT, ev_andT, ev_orT, ev_notF, ev_andF, ev_orF, ev_ifF, ev_yes, ev_iter, ev_rng1, ev_rng2, ev_rngW, ev_noP, ev_sl, ev_part, ev_next, ev_noG, ev_seq, ev_drop, ev_ret, ev_retN, ev_if, ev_asg, ev_setA, ev_nilA, ev_consA, ev_seqT, ev_seqL, ev_setN, ev_ok, ev_ioV, ev_ioU, ev_ioW, ev_owV, ev_owU, ev_own, ev_put, ev_ixOwn, ev_lenOwn, ev_setIx, ev_comp, ev_compL0, ev_compL1, ev_okC, ev_wipe1, ev_wipe0, ev_rest1, ev_rest0, ev_call, ev_callN, ev_ofr, ev_ofn, ev_ofnN, ev_mut, ev_mdl, ev_mdi, ev_io, ev_addI, ev_subI, ev_negI, ev_cmpI, ev_eqI, ev_neI, ev_eqS, ev_neS, ev_intI, ev_intB, ev_absI, ev_lenL, ev_lenT, ev_ixL, ev_ixT, ev_at0, ev_at1, ev_at2, ev_i30, ev_i31, ev_i32, ev_pk1, ev_pk2, ev_pk3, ev_pk4, ev_pkw1, ev_pkw2, ev_pkv2, ev_isI, ev_isN, ev_isB, ev_inI, ev_inN, ev_inB, ev_listT, ev_listL, ev_tupT, ev_tupL, ev_fld, ev_insAt, ev_fldOwn, ev_fldG, ev_meth, ev_make, ev_callL, ev_noLI, ev_nilL, ev_nameL, ev_lendL, ev_conL, ev_augIx, ev_putAt, ev_iadd, ev_isub, ev_revT, ev_enum, ev_zip, ev_seqDL, ev_seqDT, ev_nilM, ev_vaM, ev_owM, ev_parM, ev_app, ev_par, ev_par3, R.bind_ok, R.out_ok, Option.bind_some, List.getElem?_cons_succ, List.getElem?_cons_zero, List.set_cons_succ, List.set_cons_zero, List.length_cons, List.length_nil, Nat.reduceAdd, Nat.reduceEqDiff, List.getD_cons_succ, List.getD_cons_zero, decide_true, decide_false, Bool.and_true, Bool.and_self, and_self, true_and, List.all_cons, List.all_nil, Bool.not_true, Bool.not_false, if_true, Bool.true_eq_false, Bool.false_eq_true, if_false, h, d]
theorem cols {n : Nat} {w : Int} {A : Mat} {Q : F D} {x0 x1 x2 x4 x5 y6 x7 x8 x9 x10 x11 x12 x13 y14 : Sl} (hw : (n : Int) = w) (hn : n ≤ 6) (q6 : Pl y6) (q14 : Pl y14)
    (hQ : ∀ y6 x7 y14 : Sl, Q [x0, x1, x2, .va (.int w), x4, x5, y6, x7, x8, x9, x10, x11, x12, x13, y14] = .ok (matT n A) [x0, x1, x2, .va (.int w), x4, x5, y6, x7, x8, x9, x10, x11, x12, x13, y14]) :
    compN (rng1F (nameF 3)) [6] (setA 6) yesT (lstF' (compN (iterF Q) [14] (setA 14) yesT (op2F ixD (nameF 14) (nameF 6)))) [x0, x1, x2, .va (.int w), x4, x5, y6, x7, x8, x9, x10, x11, x12, x13, y14] = .ok ((List.range n).map fun i => D.lst (rowD n fun r => A r i)) [x0, x1, x2, .va (.int w), x4, x5, y6, x7, x8, x9, x10, x11, x12, x13, y14] := by
  have sm := sm_small (w := w) (by omega) (by omega)
  have rg := rng_nat hw
  refine compN_src1 (fun i : Nat => D.int (i : Int)) (fun i : Nat => D.lst (rowD n fun r => A r i)) (s1 := [x0, x1, x2, .va (.int w), x4, x5, y6, x7, x8, x9, x10, x11, x12, x13, y14]) (xs := List.range n) ?_ (by rw [List.length_range, sizeLine_eq]; omega) (y0 := y6) rfl q6 rfl fun i hi => ?_
  · simp only [ev_name, ev_c, ev_op2, ev_op1, ev_toR1, ev_toRL1, ev_nil, ev_cons, ev_opn, ev_opnN, ev_tup, ev_lst, ev_lstN, ev_new, ev_tst, ev_notT, ev_andT, ev_orT, ev_notF, ev_andF, ev_orF, ev_ifF, ev_yes, ev_iter, ev_rng1, ev_rng2, ev_rngW, ev_noP, ev_sl, ev_part, ev_next, ev_noG, ev_seq, ev_drop, ev_ret, ev_retN, ev_if, ev_asg, ev_setA, ev_nilA, ev_consA, ev_seqT, ev_seqL, ev_setN, ev_ok, ev_ioV, ev_ioU, ev_ioW, ev_owV, ev_owU, ev_own, ev_put, ev_ixOwn, ev_lenOwn, ev_setIx, ev_comp, ev_compL0, ev_compL1, ev_okC, ev_wipe1, ev_wipe0, ev_rest1, ev_rest0, ev_call, ev_callN, ev_ofr, ev_ofn, ev_ofnN, ev_mut, ev_mdl, ev_mdi, ev_io, ev_addI, ev_subI, ev_negI, ev_cmpI, ev_eqI, ev_neI, ev_eqS, ev_neS, ev_intI, ev_intB, ev_absI, ev_lenL, ev_lenT, ev_ixL, ev_ixT, ev_at0, ev_at1, ev_at2, ev_i30, ev_i31, ev_i32, ev_pk1, ev_pk2, ev_pk3, ev_pk4, ev_pkw1, ev_pkw2, ev_pkv2, ev_isI, ev_isN, ev_isB, ev_inI, ev_inN, ev_inB, ev_listT, ev_listL, ev_tupT, ev_tupL, ev_fld, ev_insAt, ev_fldOwn, ev_fldG, ev_meth, ev_make, ev_callL, ev_noLI, ev_nilL, ev_nameL, ev_lendL, ev_conL, ev_augIx, ev_putAt, ev_iadd, ev_isub, ev_revT, ev_enum, ev_zip, ev_seqDL, ev_seqDT, ev_nilM, ev_vaM, ev_owM, ev_parM, ev_app, ev_par, ev_par3, R.bind_ok, R.out_ok, Option.bind_some, List.getElem?_cons_succ, List.getElem?_cons_zero, List.set_cons_succ, List.set_cons_zero, List.length_cons, List.length_nil, Nat.reduceAdd, Nat.reduceEqDiff, List.getD_cons_succ, List.getD_cons_zero, decide_true, decide_false, Bool.and_true, Bool.and_self, and_self, true_and, List.all_cons, List.all_nil, Bool.not_true, Bool.not_false, if_true, Bool.true_eq_false, Bool.false_eq_true, if_false, sm, rg]
  · have hi := List.mem_range.mp hi
    have c : compN (iterF Q) [14] (setA 14) yesT (op2F ixD (nameF 14) (nameF 6)) [x0, x1, x2, .va (.int w), x4, x5, .va (.int (i : Int)), x7, x8, x9, x10, x11, x12, x13, y14] = .ok (rowD n fun r => A r i) [x0, x1, x2, .va (.int w), x4, x5, .va (.int (i : Int)), x7, x8, x9, x10, x11, x12, x13, y14] := by
      refine compN_src1 (fun r : Nat => D.tup (rowD n (A r))) (fun r : Nat => fr (A r i)) (s1 := [x0, x1, x2, .va (.int w), x4, x5, .va (.int (i : Int)), x7, x8, x9, x10, x11, x12, x13, y14]) (xs := List.range n) ?_ (by rw [List.length_range, sizeLine_eq]; omega) (y0 := y14) rfl q14 rfl fun r hr => ?_
      · have h := hQ (.va (.int (i : Int))) x7 y14
        unfold matT at h
        simp only [ev_name, ev_c, ev_op2, ev_op1, ev_toR1, ev_toRL1, ev_nil, ev_cons, ev_opn, ev_opnN, ev_tup, ev_lst, ev_lstN, ev_new, ev_tst, ev_notT, ev_andT, ev_orT, ev_notF, ev_andF, ev_orF, ev_ifF, ev_yes, ev_iter, ev_rng1, ev_rng2, ev_rngW, ev_noP, ev_sl, ev_part, ev_next, ev_noG, ev_seq, ev_drop, ev_ret, ev_retN, ev_if, ev_asg, ev_setA, ev_nilA, ev_consA, ev_seqT, ev_seqL, ev_setN, ev_ok, ev_ioV, ev_ioU, ev_ioW, ev_owV, ev_owU, ev_own, ev_put, ev_ixOwn, ev_lenOwn, ev_setIx, ev_comp, ev_compL0, ev_compL1, ev_okC, ev_wipe1, ev_wipe0, ev_rest1, ev_rest0, ev_call, ev_callN, ev_ofr, ev_ofn, ev_ofnN, ev_mut, ev_mdl, ev_mdi, ev_io, ev_addI, ev_subI, ev_negI, ev_cmpI, ev_eqI, ev_neI, ev_eqS, ev_neS, ev_intI, ev_intB, ev_absI, ev_lenL, ev_lenT, ev_ixL, ev_ixT, ev_at0, ev_at1, ev_at2, ev_i30, ev_i31, ev_i32, ev_pk1, ev_pk2, ev_pk3, ev_pk4, ev_pkw1, ev_pkw2, ev_pkv2, ev_isI, ev_isN, ev_isB, ev_inI, ev_inN, ev_inB, ev_listT, ev_listL, ev_tupT, ev_tupL, ev_fld, ev_insAt, ev_fldOwn, ev_fldG, ev_meth, ev_make, ev_callL, ev_noLI, ev_nilL, ev_nameL, ev_lendL, ev_conL, ev_augIx, ev_putAt, ev_iadd, ev_isub, ev_revT, ev_enum, ev_zip, ev_seqDL, ev_seqDT, ev_nilM, ev_vaM, ev_owM, ev_parM, ev_app, ev_par, ev_par3, R.bind_ok, R.out_ok, Option.bind_some, List.getElem?_cons_succ, List.getElem?_cons_zero, List.set_cons_succ, List.set_cons_zero, List.length_cons, List.length_nil, Nat.reduceAdd, Nat.reduceEqDiff, List.getD_cons_succ, List.getD_cons_zero, decide_true, decide_false, Bool.and_true, Bool.and_self, and_self, true_and, List.all_cons, List.all_nil, Bool.not_true, Bool.not_false, if_true, Bool.true_eq_false, Bool.false_eq_true, if_false, h]
      · have ix : ixD (.tup (rowD n (A r))) (.int (i : Int)) = some (fr (A r i)) := by
          show atD (rowD n (A r)) (i : Int) = _
          refine at_nat (by omega) ?_
          rw [Int.toNat_natCast]
          exact row_get hi
        show op2F ixD (nameF 14) (nameF 6) [x0, x1, x2, .va (.int w), x4, x5, .va (.int (i : Int)), x7, x8, x9, x10, x11, x12, x13, .va (.tup (rowD n (A r)))] = .ok _ [x0, x1, x2, .va (.int w), x4, x5, .va (.int (i : Int)), x7, x8, x9, x10, x11, x12, x13, .va (.tup (rowD n (A r)))]
        generalize D.tup (rowD n (A r)) = T at ix ⊢
        simp only [ev_name, ev_c, ev_op2, ev_op1, ev_toR1, ev_toRL1, ev_nil, ev_cons, ev_opn, ev_opnN, ev_tup, ev_lst, ev_lstN, ev_new, ev_tst, ev_notT, ev_andT, ev_orT, ev_notF, ev_andF, ev_orF, ev_ifF, ev_yes, ev_iter, ev_rng1, ev_rng2, ev_rngW, ev_noP, ev_sl, ev_part, ev_next, ev_noG, ev_seq, ev_drop, ev_ret, ev_retN, ev_if, ev_asg, ev_setA, ev_nilA, ev_consA, ev_seqT, ev_seqL, ev_setN, ev_ok, ev_ioV, ev_ioU, ev_ioW, ev_owV, ev_owU, ev_own, ev_put, ev_ixOwn, ev_lenOwn, ev_setIx, ev_comp, ev_compL0, ev_compL1, ev_okC, ev_wipe1, ev_wipe0, ev_rest1, ev_rest0, ev_call, ev_callN, ev_ofr, ev_ofn, ev_ofnN, ev_mut, ev_mdl, ev_mdi, ev_io, ev_addI, ev_subI, ev_negI, ev_cmpI, ev_eqI, ev_neI, ev_eqS, ev_neS, ev_intI, ev_intB, ev_absI, ev_lenL, ev_lenT, ev_ixL, ev_ixT, ev_at0, ev_at1, ev_at2, ev_i30, ev_i31, ev_i32, ev_pk1, ev_pk2, ev_pk3, ev_pk4, ev_pkw1, ev_pkw2, ev_pkv2, ev_isI, ev_isN, ev_isB, ev_inI, ev_inN, ev_inB, ev_listT, ev_listL, ev_tupT, ev_tupL, ev_fld, ev_insAt, ev_fldOwn, ev_fldG, ev_meth, ev_make, ev_callL, ev_noLI, ev_nilL, ev_nameL, ev_lendL, ev_conL, ev_augIx, ev_putAt, ev_iadd, ev_isub, ev_revT, ev_enum, ev_zip, ev_seqDL, ev_seqDT, ev_nilM, ev_vaM, ev_owM, ev_parM, ev_app, ev_par, ev_par3, R.bind_ok, R.out_ok, Option.bind_some, List.getElem?_cons_succ, List.getElem?_cons_zero, List.set_cons_succ, List.set_cons_zero, List.length_cons, List.length_nil, Nat.reduceAdd, Nat.reduceEqDiff, List.getD_cons_succ, List.getD_cons_zero, decide_true, decide_false, Bool.and_true, Bool.and_self, and_self, true_and, List.all_cons, List.all_nil, Bool.not_true, Bool.not_false, if_true, Bool.true_eq_false, Bool.false_eq_true, if_false, ix]
    show lstF' _ [x0, x1, x2, .va (.int w), x4, x5, .va (.int (i : Int)), x7, x8, x9, x10, x11, x12, x13, y14] = .ok _ [x0, x1, x2, .va (.int w), x4, x5, .va (.int (i : Int)), x7, x8, x9, x10, x11, x12, x13, y14]
    generalize compN (iterF Q) [14] (setA 14) yesT (op2F ixD (nameF 14) (nameF 6)) = K at c ⊢
    simp only [ev_name, ev_c, ev_op2, ev_op1, ev_toR1, ev_toRL1, ev_nil, ev_cons, ev_opn, ev_opnN, ev_tup, ev_lst, ev_lstN, ev_new, ev_tst, ev_notT, ev_andT, ev_orT, ev_notF, ev_andF, ev_orF, ev_ifF, ev_yes, ev_iter, ev_rng1, ev_rng2, ev_rngW, ev_noP, ev_sl, ev_part, ev_next, ev_noG, ev_seq, ev_drop, ev_ret, ev_retN, ev_if, ev_asg, ev_setA, ev_nilA, ev_consA, ev_seqT, ev_seqL, ev_setN, ev_ok, ev_ioV, ev_ioU, ev_ioW, ev_owV, ev_owU, ev_own, ev_put, ev_ixOwn, ev_lenOwn, ev_setIx, ev_okC, ev_wipe1, ev_wipe0, ev_rest1, ev_rest0, ev_call, ev_callN, ev_ofr, ev_ofn, ev_ofnN, ev_mut, ev_mdl, ev_mdi, ev_io, ev_addI, ev_subI, ev_negI, ev_cmpI, ev_eqI, ev_neI, ev_eqS, ev_neS, ev_intI, ev_intB, ev_absI, ev_lenL, ev_lenT, ev_ixL, ev_ixT, ev_at0, ev_at1, ev_at2, ev_i30, ev_i31, ev_i32, ev_pk1, ev_pk2, ev_pk3, ev_pk4, ev_pkw1, ev_pkw2, ev_pkv2, ev_isI, ev_isN, ev_isB, ev_inI, ev_inN, ev_inB, ev_listT, ev_listL, ev_tupT, ev_tupL, ev_fld, ev_insAt, ev_fldOwn, ev_fldG, ev_meth, ev_make, ev_callL, ev_noLI, ev_nilL, ev_nameL, ev_lendL, ev_conL, ev_augIx, ev_putAt, ev_iadd, ev_isub, ev_revT, ev_enum, ev_zip, ev_seqDL, ev_seqDT, ev_nilM, ev_vaM, ev_owM, ev_parM, ev_app, ev_par, ev_par3, R.bind_ok, R.out_ok, Option.bind_some, List.getElem?_cons_succ, List.getElem?_cons_zero, List.set_cons_succ, List.set_cons_zero, List.length_cons, List.length_nil, Nat.reduceAdd, Nat.reduceEqDiff, List.getD_cons_succ, List.getD_cons_zero, decide_true, decide_false, Bool.and_true, Bool.and_self, and_self, true_and, List.all_cons, List.all_nil, Bool.not_true, Bool.not_false, if_true, Bool.true_eq_false, Bool.false_eq_true, if_false, c]
theorem cols_loop {n V U : Nat} {w : Int} {A B : Mat} {x0 x1 x2 x4 x5 x7 x14 y6 y9 y10 y11 y12 y13 : Sl} (hw : (n : Int) = w) (hV : 0 < V) (hU : 0 < U) (hV2 : (V : Int) ≤ 2 ^ 80) (hU2 : (U : Int) ≤ 2 ^ 80) (hA : OvM V 108 A) (hB : OvM U 108 B) (hn : n ≤ 6) (inv : ∀ k i, k < n → (sumN n fun j => B k j * A j i) = idM k i) (q6 : Pl y6) (q9 : Pl y9) (q10 : Pl y10) (q11 : Pl y11) (q12 : Pl y12) (q13 : Pl y13) :
    ∃ z6 z9 z10 z11 z12 z13, forL (seqA 2 (consA (setA 6) (consA (setA 9) nilA))) g_law_b3 (enumD ((List.range n).map fun i => D.lst (rowD n fun r => A r i))) [x0, x1, x2, .va (.int w), x4, x5, y6, x7, .va (matT n B), y9, y10, y11, y12, y13, x14] = .nx [x0, x1, x2, .va (.int w), x4, x5, z6, x7, .va (matT n B), z9, z10, z11, z12, z13, x14] ∧ Pl z6 ∧ Pl z9 ∧ Pl z10 ∧ Pl z11 ∧ Pl z12 ∧ Pl z13 := by
  obtain ⟨s', e, z6, z9, z10, z11, z12, z13, rfl, r6, r9, r10, r11, r12, r13⟩ := forL_run (a := seqA 2 (consA (setA 6) (consA (setA 9) nilA))) (G1 := g_law_b3)
    (I := fun _ s' => ∃ z6 z9 z10 z11 z12 z13, s' = [x0, x1, x2, .va (.int w), x4, x5, z6, x7, .va (matT n B), z9, z10, z11, z12, z13, x14] ∧ Pl z6 ∧ Pl z9 ∧ Pl z10 ∧ Pl z11 ∧ Pl z12 ∧ Pl z13)
    (enumD ((List.range n).map fun i => D.lst (rowD n fun r => A r i))) 0 _ ⟨y6, y9, y10, y11, y12, y13, rfl, q6, q9, q10, q11, q12, q13⟩ fun m d s' e hi => by
      obtain ⟨z6, z9, z10, z11, z12, z13, rfl, r6, r9, r10, r11, r12, r13⟩ := hi
      have hm : m < n := by
        have := (List.getElem?_eq_some_iff.mp e).1
        rwa [enumD_length, List.length_map, List.length_range] at this
      obtain ⟨x, hx, rfl⟩ := enumD_get e
      rw [List.getElem?_map, List.getElem?_range hm] at hx
      cases hx
      obtain ⟨u10, u11, u12, u13, e2, t10, t11, t12, t13⟩ := law_b3P (i := m) (x0 := x0) (x1 := x1) (x2 := x2) (x4 := x4) (x5 := x5) (x7 := x7) (x14 := x14) hw hV hU hV2 hU2 hA hB hn (fun k hk => inv k m hk) r10 r11 r12 r13
      refine ⟨[x0, x1, x2, .va (.int w), x4, x5, .va (.int (m : Int)), x7, .va (matT n B), .va (.lst (rowD n fun r => A r m)), z10, z11, z12, z13, x14], _, ?_, .inl e2, .va (.int (m : Int)), .va (.lst (rowD n fun r => A r m)), u10, u11, u12, u13, rfl, Pl.va, Pl.va, t10, t11, t12, t13⟩
      simp only [ev_name, ev_c, ev_op2, ev_op1, ev_toR1, ev_toRL1, ev_nil, ev_cons, ev_opn, ev_opnN, ev_tup, ev_lst, ev_lstN, ev_new, ev_tst, ev_notT, ev_andT, ev_orT, ev_notF, ev_andF, ev_orF, ev_ifF, ev_yes, ev_iter, ev_rng1, ev_rng2, ev_rngW, ev_noP, ev_sl, ev_part, ev_next, ev_noG, ev_seq, ev_drop, ev_ret, ev_retN, ev_if, ev_asg, ev_setA, ev_nilA, ev_consA, ev_seqT, ev_seqL, ev_setN, ev_ok, ev_ioV, ev_ioU, ev_ioW, ev_owV, ev_owU, ev_own, ev_put, ev_ixOwn, ev_lenOwn, ev_setIx, ev_comp, ev_compL0, ev_compL1, ev_okC, ev_wipe1, ev_wipe0, ev_rest1, ev_rest0, ev_call, ev_callN, ev_ofr, ev_ofn, ev_ofnN, ev_mut, ev_mdl, ev_mdi, ev_io, ev_addI, ev_subI, ev_negI, ev_cmpI, ev_eqI, ev_neI, ev_eqS, ev_neS, ev_intI, ev_intB, ev_absI, ev_lenL, ev_lenT, ev_ixL, ev_ixT, ev_at0, ev_at1, ev_at2, ev_i30, ev_i31, ev_i32, ev_pk1, ev_pk2, ev_pk3, ev_pk4, ev_pkw1, ev_pkw2, ev_pkv2, ev_isI, ev_isN, ev_isB, ev_inI, ev_inN, ev_inB, ev_listT, ev_listL, ev_tupT, ev_tupL, ev_fld, ev_insAt, ev_fldOwn, ev_fldG, ev_meth, ev_make, ev_callL, ev_noLI, ev_nilL, ev_nameL, ev_lendL, ev_conL, ev_augIx, ev_putAt, ev_iadd, ev_isub, ev_revT, ev_enum, ev_zip, ev_seqDL, ev_seqDT, ev_nilM, ev_vaM, ev_owM, ev_parM, ev_app, ev_par, ev_par3, R.bind_ok, R.out_ok, Option.bind_some, List.getElem?_cons_succ, List.getElem?_cons_zero, List.set_cons_succ, List.set_cons_zero, List.length_cons, List.length_nil, Nat.reduceAdd, Nat.reduceEqDiff, List.getD_cons_succ, List.getD_cons_zero, decide_true, decide_false, Bool.and_true, Bool.and_self, and_self, true_and, List.all_cons, List.all_nil, Bool.not_true, Bool.not_false, if_true, Bool.true_eq_false, Bool.false_eq_true, if_false, r6.1, r9.1]
  exact ⟨z6, z9, z10, z11, z12, z13, e, r6, r9, r10, r11, r12, r13⟩
theorem if_g {X Y Z : F D} {T : D} {z : Str} {s s' : List Sl} (hX : X s = .ok T s) (hY : Y s = .ok T s) (hr : reprD [T] = some (.str z)) (hZ : Z s = .ok (.bl true) s') :
    ifG (orT (tstF (op2F neD (opnF reprD (consF X nilF)) (opnF reprD (consF Y nilF)))) (notT (tstF Z))) (retG (cF (.bl false))) nextG s = .nx s' := by
  have d : decide (z = z) = true := decide_eq_true rfl
  simp only [ev_name, ev_c, ev_op2, ev_op1, ev_toR1, ev_toRL1, ev_nil, ev_cons, ev_opn, ev_opnN, ev_tup, ev_lst, ev_lstN, ev_new, ev_tst, ev_notT, ev_andT, ev_orT, ev_notF, ev_andF, ev_orF, ev_ifF, ev_yes, ev_iter, ev_rng1, ev_rng2, ev_rngW, ev_noP, ev_sl, ev_part, ev_next, ev_noG, ev_seq, ev_drop, ev_ret, ev_retN, ev_if, ev_asg, ev_setA, ev_nilA, ev_consA, ev_seqT, ev_seqL, ev_setN, ev_ok, ev_ioV, ev_ioU, ev_ioW, ev_owV, ev_owU, ev_own, ev_put, ev_ixOwn, ev_lenOwn, ev_setIx, ev_comp, ev_compL0, ev_compL1, ev_okC, ev_wipe1, ev_wipe0, ev_rest1, ev_rest0, ev_call, ev_callN, ev_ofr, ev_ofn, ev_ofnN, ev_mut, ev_mdl, ev_mdi, ev_io, ev_addI, ev_subI, ev_negI, ev_cmpI, ev_eqI, ev_neI, ev_eqS, ev_neS, ev_intI, ev_intB, ev_absI, ev_lenL, ev_lenT, ev_ixL, ev_ixT, ev_at0, ev_at1, ev_at2, ev_i30, ev_i31, ev_i32, ev_pk1, ev_pk2, ev_pk3, ev_pk4, ev_pkw1, ev_pkw2, ev_pkv2, ev_isI, ev_isN, ev_isB, ev_inI, ev_inN, ev_inB, ev_listT, ev_listL, ev_tupT, ev_tupL, ev_fld, ev_insAt, ev_fldOwn, ev_fldG, ev_meth, ev_make, ev_callL, ev_noLI, ev_nilL, ev_nameL, ev_lendL, ev_conL, ev_augIx, ev_putAt, ev_iadd, ev_isub, ev_revT, ev_enum, ev_zip, ev_seqDL, ev_seqDT, ev_nilM, ev_vaM, ev_owM, ev_parM, ev_app, ev_par, ev_par3, R.bind_ok, R.out_ok, Option.bind_some, List.getElem?_cons_succ, List.getElem?_cons_zero, List.set_cons_succ, List.set_cons_zero, List.length_cons, List.length_nil, Nat.reduceAdd, Nat.reduceEqDiff, List.getD_cons_succ, List.getD_cons_zero, decide_true, decide_false, Bool.and_true, Bool.and_self, and_self, true_and, List.all_cons, List.all_nil, Bool.not_true, Bool.not_false, if_true, Bool.true_eq_false, Bool.false_eq_true, if_false, hX, hY, hr, hZ, d]
theorem widths {d : D} (h : d ∈ ([.int 1, .int 2, .int 5, .int 3, .int 4, .int 6] : List D)) : ∃ w : Int, d = .int w ∧ 1 ≤ w ∧ w ≤ 6 := by
  simp only [List.mem_cons, List.not_mem_nil, or_false] at h
  rcases h with rfl | rfl | rfl | rfl | rfl | rfl <;> exact ⟨_, rfl, by decide, by decide⟩
theorem law_b4P {b : Nat} {P : List D} {j : Int} {x0 y3 y4 y5 y6 y7 y8 y9 y10 y11 y12 y13 y14 : Sl} (h : Pen b P) (hb : b < 2 ^ 15) (q3 : Pl y3) (q4 : Pl y4) (q5 : Pl y5) (q6 : Pl y6) (q7 : Pl y7) (q8 : Pl y8) (q9 : Pl y9) (q10 : Pl y10) (q11 : Pl y11) (q12 : Pl y12) (q13 : Pl y13) (q14 : Pl y14) :
    ∃ P' z3 z4 z5 z6 z7 z8 z9 z10 z11 z12 z13, g_law_b4 [x0, .ow (.l P), .va (.int j), y3, y4, y5, y6, y7, y8, y9, y10, y11, y12, y13, y14] = .nx [x0, .ow (.l P'), .va (.int j), z3, z4, z5, z6, z7, z8, z9, z10, z11, z12, z13, y14] ∧ Pl z3 ∧ Pl z4 ∧ Pl z5 ∧ Pl z6 ∧ Pl z7 ∧ Pl z8 ∧ Pl z9 ∧ Pl z10 ∧ Pl z11 ∧ Pl z12 ∧ Pl z13 ∧ Pen (b + 400) P' := by
  obtain ⟨d1, P1, e1, m1, g1⟩ := pick (xs := [.int 1, .int 2, .int 5, .int 3, .int 4, .int 6]) h (by omega) (by simp) (by simp)
  obtain ⟨w, rfl, w1, w6⟩ := widths m1
  obtain ⟨m, m0, m12, em⟩ := most_of (j := j) (s := [x0, .ow (.l P1), .va (.int j), .va (.int w), y4, y5, y6, y7, y8, y9, y10, y11, y12, y13, y14]) rfl
  obtain ⟨st, P2, e2, ok, hl, g2⟩ := steps g1 w1 w6 m0 m12 (by omega)
  have okw : ∀ s ∈ st, s.Okw w := fun s hs => (ok s hs).w
  have hl12 : st.length ≤ 12 := by omega
  obtain ⟨P3, e3, g3⟩ := shiftsP g2 w1 w6 ok hl12 (by omega)
  obtain ⟨n, hn⟩ : ∃ n : Nat, (n : Int) = w := ⟨w.toNat, by omega⟩
  have hn6 : n ≤ 6 := by omega
  obtain ⟨V, v0, v1, v2⟩ := far_ov w6 okw hl12
  have okt := turns_okw okw
  have hlt : (st.reverse.map turn1).length ≤ 12 := by rw [List.length_map, List.length_reverse]; exact hl12
  obtain ⟨U, u0, u1, u2⟩ := far_ov w6 okt hlt
  obtain ⟨z, hz⟩ := repr_mat (n := n) (A := rops st idM) hn6 fun i j => ov_sq (v2 i j) v0 (sz_le v1) (by omega)
  obtain ⟨z6, z9, z10, z11, z12, z13, el, r6, r9, r10, r11, r12, r13⟩ := cols_loop (A := rops st idM) (B := rops (st.reverse.map turn1) idM) (x0 := x0) (x1 := .ow (.l P3)) (x2 := .va (.int j)) (x4 := .va (stD st)) (x5 := .va (liftD w st)) (x7 := .va (.lst ((List.range n).map fun i => D.lst (rowD n fun r => rops st idM r i)))) (x14 := y14) hn v0 u0 v1 u1 v2 u2 hn6 (fun k i hk => inverse hn okw hk) q6 q9 q10 q11 q12 q13
  have mk := mkLift (w := w) (st := st) (X := stD st) w1 w6 ok hl12 (.inl rfl)
  refine ⟨P3, .va (.int w), .va (stD st), .va (liftD w st), z6, .va (.lst ((List.range n).map fun i => D.lst (rowD n fun r => rops st idM r i))), .va (matT n (rops (st.reverse.map turn1) idM)), z9, z10, z11, z12, z13, ?_, Pl.va, Pl.va, Pl.va, r6, Pl.va, Pl.va, r9, r10, r11, r12, r13, g3.mono (by omega)⟩
  unfold g_law_b4
  generalize g_law_b3 = B3 at el ⊢
  refine (seqE (s1 := [x0, .ow (.l P1), .va (.int j), .va (.int w), y4, y5, y6, y7, y8, y9, y10, y11, y12, y13, y14]) ?_).trans ?_
  · generalize F__law_pick = Fp at e1 ⊢
    simp only [ev_name, ev_c, ev_op2, ev_op1, ev_toR1, ev_toRL1, ev_nil, ev_cons, ev_opn, ev_opnN, ev_tup, ev_lst, ev_lstN, ev_new, ev_tst, ev_notT, ev_andT, ev_orT, ev_notF, ev_andF, ev_orF, ev_ifF, ev_yes, ev_iter, ev_rng1, ev_rng2, ev_rngW, ev_noP, ev_sl, ev_part, ev_next, ev_noG, ev_seq, ev_drop, ev_ret, ev_retN, ev_if, ev_asg, ev_setA, ev_nilA, ev_consA, ev_seqT, ev_seqL, ev_setN, ev_ok, ev_ioV, ev_ioU, ev_ioW, ev_owV, ev_owU, ev_own, ev_put, ev_ixOwn, ev_lenOwn, ev_setIx, ev_comp, ev_compL0, ev_compL1, ev_okC, ev_wipe1, ev_wipe0, ev_rest1, ev_rest0, ev_call, ev_callN, ev_ofr, ev_ofn, ev_ofnN, ev_mut, ev_mdl, ev_mdi, ev_io, ev_addI, ev_subI, ev_negI, ev_cmpI, ev_eqI, ev_neI, ev_eqS, ev_neS, ev_intI, ev_intB, ev_absI, ev_lenL, ev_lenT, ev_ixL, ev_ixT, ev_at0, ev_at1, ev_at2, ev_i30, ev_i31, ev_i32, ev_pk1, ev_pk2, ev_pk3, ev_pk4, ev_pkw1, ev_pkw2, ev_pkv2, ev_isI, ev_isN, ev_isB, ev_inI, ev_inN, ev_inB, ev_listT, ev_listL, ev_tupT, ev_tupL, ev_fld, ev_insAt, ev_fldOwn, ev_fldG, ev_meth, ev_make, ev_callL, ev_noLI, ev_nilL, ev_nameL, ev_lendL, ev_conL, ev_augIx, ev_putAt, ev_iadd, ev_isub, ev_revT, ev_enum, ev_zip, ev_seqDL, ev_seqDT, ev_nilM, ev_vaM, ev_owM, ev_parM, ev_app, ev_par, ev_par3, R.bind_ok, R.out_ok, Option.bind_some, List.getElem?_cons_succ, List.getElem?_cons_zero, List.set_cons_succ, List.set_cons_zero, List.length_cons, List.length_nil, Nat.reduceAdd, Nat.reduceEqDiff, List.getD_cons_succ, List.getD_cons_zero, decide_true, decide_false, Bool.and_true, Bool.and_self, and_self, true_and, List.all_cons, List.all_nil, Bool.not_true, Bool.not_false, if_true, Bool.true_eq_false, Bool.false_eq_true, if_false, sz6, e1, q3.1]
  refine (seqE (s1 := [x0, .ow (.l P2), .va (.int j), .va (.int w), .va (stD st), y5, y6, y7, y8, y9, y10, y11, y12, y13, y14]) ?_).trans ?_
  · generalize F__law_steps = Fp at e2 ⊢
    generalize ifF (tstF (op2F eqD (nameF 2) (cF (.int 0)))) (cF (.int 12)) (cF (.int 4)) = Q at em ⊢
    simp only [ev_name, ev_c, ev_op2, ev_op1, ev_toR1, ev_toRL1, ev_nil, ev_cons, ev_opn, ev_opnN, ev_tup, ev_lst, ev_lstN, ev_new, ev_tst, ev_notT, ev_andT, ev_orT, ev_notF, ev_andF, ev_orF, ev_ifF, ev_yes, ev_iter, ev_rng1, ev_rng2, ev_rngW, ev_noP, ev_sl, ev_part, ev_next, ev_noG, ev_seq, ev_drop, ev_ret, ev_retN, ev_if, ev_asg, ev_setA, ev_nilA, ev_consA, ev_seqT, ev_seqL, ev_setN, ev_ok, ev_ioV, ev_ioU, ev_ioW, ev_owV, ev_owU, ev_own, ev_put, ev_ixOwn, ev_lenOwn, ev_setIx, ev_comp, ev_compL0, ev_compL1, ev_okC, ev_wipe1, ev_wipe0, ev_rest1, ev_rest0, ev_call, ev_callN, ev_ofr, ev_ofn, ev_ofnN, ev_mut, ev_mdl, ev_mdi, ev_io, ev_addI, ev_subI, ev_negI, ev_cmpI, ev_eqI, ev_neI, ev_eqS, ev_neS, ev_intI, ev_intB, ev_absI, ev_lenL, ev_lenT, ev_ixL, ev_ixT, ev_at0, ev_at1, ev_at2, ev_i30, ev_i31, ev_i32, ev_pk1, ev_pk2, ev_pk3, ev_pk4, ev_pkw1, ev_pkw2, ev_pkv2, ev_isI, ev_isN, ev_isB, ev_inI, ev_inN, ev_inB, ev_listT, ev_listL, ev_tupT, ev_tupL, ev_fld, ev_insAt, ev_fldOwn, ev_fldG, ev_meth, ev_make, ev_callL, ev_noLI, ev_nilL, ev_nameL, ev_lendL, ev_conL, ev_augIx, ev_putAt, ev_iadd, ev_isub, ev_revT, ev_enum, ev_zip, ev_seqDL, ev_seqDT, ev_nilM, ev_vaM, ev_owM, ev_parM, ev_app, ev_par, ev_par3, R.bind_ok, R.out_ok, Option.bind_some, List.getElem?_cons_succ, List.getElem?_cons_zero, List.set_cons_succ, List.set_cons_zero, List.length_cons, List.length_nil, Nat.reduceAdd, Nat.reduceEqDiff, List.getD_cons_succ, List.getD_cons_zero, decide_true, decide_false, Bool.and_true, Bool.and_self, and_self, true_and, List.all_cons, List.all_nil, Bool.not_true, Bool.not_false, if_true, Bool.true_eq_false, Bool.false_eq_true, if_false, em, e2, q4.1]
  refine (seqE (s1 := [x0, .ow (.l P2), .va (.int j), .va (.int w), .va (stD st), .va (liftD w st), y6, y7, y8, y9, y10, y11, y12, y13, y14]) ?_).trans ?_
  · have em2 : makeF "Lift" F_Lift___init__ 3 (consF (nameF 3) (consF (nameF 4) nilF)) [x0, .ow (.l P2), .va (.int j), .va (.int w), .va (stD st), y5, y6, y7, y8, y9, y10, y11, y12, y13, y14] = .ok (liftD w st) [x0, .ow (.l P2), .va (.int j), .va (.int w), .va (stD st), y5, y6, y7, y8, y9, y10, y11, y12, y13, y14] := makeE (ds := [.int w, stD st]) rfl rfl mk
    generalize makeF "Lift" F_Lift___init__ 3 (consF (nameF 3) (consF (nameF 4) nilF)) = Q at em2 ⊢
    simp only [ev_name, ev_c, ev_op2, ev_op1, ev_toR1, ev_toRL1, ev_nil, ev_cons, ev_opn, ev_opnN, ev_tup, ev_lst, ev_lstN, ev_new, ev_tst, ev_notT, ev_andT, ev_orT, ev_notF, ev_andF, ev_orF, ev_ifF, ev_yes, ev_iter, ev_rng1, ev_rng2, ev_rngW, ev_noP, ev_sl, ev_part, ev_next, ev_noG, ev_seq, ev_drop, ev_ret, ev_retN, ev_if, ev_asg, ev_setA, ev_nilA, ev_consA, ev_seqT, ev_seqL, ev_setN, ev_ok, ev_ioV, ev_ioU, ev_ioW, ev_owV, ev_owU, ev_own, ev_put, ev_ixOwn, ev_lenOwn, ev_setIx, ev_comp, ev_compL0, ev_compL1, ev_okC, ev_wipe1, ev_wipe0, ev_rest1, ev_rest0, ev_call, ev_callN, ev_ofr, ev_ofn, ev_ofnN, ev_mut, ev_mdl, ev_mdi, ev_io, ev_addI, ev_subI, ev_negI, ev_cmpI, ev_eqI, ev_neI, ev_eqS, ev_neS, ev_intI, ev_intB, ev_absI, ev_lenL, ev_lenT, ev_ixL, ev_ixT, ev_at0, ev_at1, ev_at2, ev_i30, ev_i31, ev_i32, ev_pk1, ev_pk2, ev_pk3, ev_pk4, ev_pkw1, ev_pkw2, ev_pkv2, ev_isI, ev_isN, ev_isB, ev_inI, ev_inN, ev_inB, ev_listT, ev_listL, ev_tupT, ev_tupL, ev_fld, ev_insAt, ev_fldOwn, ev_fldG, ev_meth, ev_make, ev_callL, ev_noLI, ev_nilL, ev_nameL, ev_lendL, ev_conL, ev_augIx, ev_putAt, ev_iadd, ev_isub, ev_revT, ev_enum, ev_zip, ev_seqDL, ev_seqDT, ev_nilM, ev_vaM, ev_owM, ev_parM, ev_app, ev_par, ev_par3, R.bind_ok, R.out_ok, Option.bind_some, List.getElem?_cons_succ, List.getElem?_cons_zero, List.set_cons_succ, List.set_cons_zero, List.length_cons, List.length_nil, Nat.reduceAdd, Nat.reduceEqDiff, List.getD_cons_succ, List.getD_cons_zero, decide_true, decide_false, Bool.and_true, Bool.and_self, and_self, true_and, List.all_cons, List.all_nil, Bool.not_true, Bool.not_false, if_true, Bool.true_eq_false, Bool.false_eq_true, if_false, em2, q5.1]
  refine (seqE (s1 := [x0, .ow (.l P3), .va (.int j), .va (.int w), .va (stD st), .va (liftD w st), y6, y7, y8, y9, y10, y11, y12, y13, y14]) ?_).trans ?_
  · refine if_g (T := matT n (rops st idM)) (farF hn w6 okw hl12 rfl) ?_ hz ?_
    · exact callE (ds := [.int w, stD st]) rfl rfl rfl (lfarP hn w6 okw hl12)
    · generalize F__law_shifts_right = Fp at e3 ⊢
      simp only [ev_name, ev_c, ev_op2, ev_op1, ev_toR1, ev_toRL1, ev_nil, ev_cons, ev_opn, ev_opnN, ev_tup, ev_lst, ev_lstN, ev_new, ev_tst, ev_notT, ev_andT, ev_orT, ev_notF, ev_andF, ev_orF, ev_ifF, ev_yes, ev_iter, ev_rng1, ev_rng2, ev_rngW, ev_noP, ev_sl, ev_part, ev_next, ev_noG, ev_seq, ev_drop, ev_ret, ev_retN, ev_if, ev_asg, ev_setA, ev_nilA, ev_consA, ev_seqT, ev_seqL, ev_setN, ev_ok, ev_ioV, ev_ioU, ev_ioW, ev_owV, ev_owU, ev_own, ev_put, ev_ixOwn, ev_lenOwn, ev_setIx, ev_comp, ev_compL0, ev_compL1, ev_okC, ev_wipe1, ev_wipe0, ev_rest1, ev_rest0, ev_call, ev_callN, ev_ofr, ev_ofn, ev_ofnN, ev_mut, ev_mdl, ev_mdi, ev_io, ev_addI, ev_subI, ev_negI, ev_cmpI, ev_eqI, ev_neI, ev_eqS, ev_neS, ev_intI, ev_intB, ev_absI, ev_lenL, ev_lenT, ev_ixL, ev_ixT, ev_at0, ev_at1, ev_at2, ev_i30, ev_i31, ev_i32, ev_pk1, ev_pk2, ev_pk3, ev_pk4, ev_pkw1, ev_pkw2, ev_pkv2, ev_isI, ev_isN, ev_isB, ev_inI, ev_inN, ev_inB, ev_listT, ev_listL, ev_tupT, ev_tupL, ev_fld, ev_insAt, ev_fldOwn, ev_fldG, ev_meth, ev_make, ev_callL, ev_noLI, ev_nilL, ev_nameL, ev_lendL, ev_conL, ev_augIx, ev_putAt, ev_iadd, ev_isub, ev_revT, ev_enum, ev_zip, ev_seqDL, ev_seqDT, ev_nilM, ev_vaM, ev_owM, ev_parM, ev_app, ev_par, ev_par3, R.bind_ok, R.out_ok, Option.bind_some, List.getElem?_cons_succ, List.getElem?_cons_zero, List.set_cons_succ, List.set_cons_zero, List.length_cons, List.length_nil, Nat.reduceAdd, Nat.reduceEqDiff, List.getD_cons_succ, List.getD_cons_zero, decide_true, decide_false, Bool.and_true, Bool.and_self, and_self, true_and, List.all_cons, List.all_nil, Bool.not_true, Bool.not_false, if_true, Bool.true_eq_false, Bool.false_eq_true, if_false, e3]
  refine (seqE (s1 := [x0, .ow (.l P3), .va (.int j), .va (.int w), .va (stD st), .va (liftD w st), y6, .ow (.l ((List.range n).map fun i => D.lst (rowD n fun r => rops st idM r i))), y8, y9, y10, y11, y12, y13, y14]) ?_).trans ?_
  · have c := cols (A := rops st idM) (Q := methF "Lift" "far" F_Lift_far 1 (pickG 1 0 [] [0]) (nameF 5) nilF nilF) (x0 := x0) (x1 := .ow (.l P3)) (x2 := .va (.int j)) (x4 := .va (stD st)) (x5 := .va (liftD w st)) (x7 := y7) (x8 := y8) (x9 := y9) (x10 := y10) (x11 := y11) (x12 := y12) (x13 := y13) hn hn6 q6 q14 (fun _ _ _ => farF hn w6 okw hl12 rfl)
    generalize compN (rng1F (nameF 3)) [6] (setA 6) yesT (lstF' (compN (iterF (methF "Lift" "far" F_Lift_far 1 (pickG 1 0 [] [0]) (nameF 5) nilF nilF)) [14] (setA 14) yesT (op2F ixD (nameF 14) (nameF 6)))) = K at c ⊢
    have io7 : ioSl y7 = false := q7.1
    simp only [ev_name, ev_c, ev_op2, ev_op1, ev_toR1, ev_toRL1, ev_nil, ev_cons, ev_opn, ev_opnN, ev_tup, ev_lst, ev_lstN, ev_new, ev_tst, ev_notT, ev_andT, ev_orT, ev_notF, ev_andF, ev_orF, ev_ifF, ev_yes, ev_iter, ev_rng1, ev_rng2, ev_rngW, ev_noP, ev_sl, ev_part, ev_next, ev_noG, ev_seq, ev_drop, ev_ret, ev_retN, ev_if, ev_asg, ev_setA, ev_nilA, ev_consA, ev_seqT, ev_seqL, ev_setN, ev_ok, ev_ioV, ev_ioU, ev_ioW, ev_owV, ev_owU, ev_own, ev_put, ev_ixOwn, ev_lenOwn, ev_setIx, ev_okC, ev_wipe1, ev_wipe0, ev_rest1, ev_rest0, ev_call, ev_callN, ev_ofr, ev_ofn, ev_ofnN, ev_mut, ev_mdl, ev_mdi, ev_io, ev_addI, ev_subI, ev_negI, ev_cmpI, ev_eqI, ev_neI, ev_eqS, ev_neS, ev_intI, ev_intB, ev_absI, ev_lenL, ev_lenT, ev_ixL, ev_ixT, ev_at0, ev_at1, ev_at2, ev_i30, ev_i31, ev_i32, ev_pk1, ev_pk2, ev_pk3, ev_pk4, ev_pkw1, ev_pkw2, ev_pkv2, ev_isI, ev_isN, ev_isB, ev_inI, ev_inN, ev_inB, ev_listT, ev_listL, ev_tupT, ev_tupL, ev_fld, ev_insAt, ev_fldOwn, ev_fldG, ev_meth, ev_make, ev_callL, ev_noLI, ev_nilL, ev_nameL, ev_lendL, ev_conL, ev_augIx, ev_putAt, ev_iadd, ev_isub, ev_revT, ev_enum, ev_zip, ev_seqDL, ev_seqDT, ev_nilM, ev_vaM, ev_owM, ev_parM, ev_app, ev_par, ev_par3, R.bind_ok, R.out_ok, Option.bind_some, List.getElem?_cons_succ, List.getElem?_cons_zero, List.set_cons_succ, List.set_cons_zero, List.length_cons, List.length_nil, Nat.reduceAdd, Nat.reduceEqDiff, List.getD_cons_succ, List.getD_cons_zero, decide_true, decide_false, Bool.and_true, Bool.and_self, and_self, true_and, List.all_cons, List.all_nil, Bool.not_true, Bool.not_false, if_true, Bool.true_eq_false, Bool.false_eq_true, if_false, c, q7.1, io7]
  refine (seqE (s1 := [x0, .ow (.l P3), .va (.int j), .va (.int w), .va (stD st), .va (liftD w st), y6, .ow (.l ((List.range n).map fun i => D.lst (rowD n fun r => rops st idM r i))), .va (matT n (rops (st.reverse.map turn1) idM)), y9, y10, y11, y12, y13, y14]) ?_).trans ?_
  · have eu : methF "Lift" "undone" F_Lift_undone 1 (pickG 1 0 [] [0]) (nameF 5) nilF nilF [x0, .ow (.l P3), .va (.int j), .va (.int w), .va (stD st), .va (liftD w st), y6, .ow (.l ((List.range n).map fun i => D.lst (rowD n fun r => rops st idM r i))), y8, y9, y10, y11, y12, y13, y14] = .ok (liftD w (st.reverse.map turn1)) [x0, .ow (.l P3), .va (.int j), .va (.int w), .va (stD st), .va (liftD w st), y6, .ow (.l ((List.range n).map fun i => D.lst (rowD n fun r => rops st idM r i))), y8, y9, y10, y11, y12, y13, y14] := methE (cn := "Lift") rfl rfl rfl rfl rfl (undoneP w1 w6 okw hl12)
    have ef := methE (cn := "Lift") (m := "far") (Fn := F_Lift_far) (n := 1) (gD := pickG 1 0 [] [0]) (k := nilF) (kk := nilF) eu rfl rfl rfl rfl (farP hn w6 okt hlt)
    generalize methF "Lift" "far" F_Lift_far 1 (pickG 1 0 [] [0]) (methF "Lift" "undone" F_Lift_undone 1 (pickG 1 0 [] [0]) (nameF 5) nilF nilF) nilF nilF = Q at ef ⊢
    simp only [ev_name, ev_c, ev_op2, ev_op1, ev_toR1, ev_toRL1, ev_nil, ev_cons, ev_opn, ev_opnN, ev_tup, ev_lst, ev_lstN, ev_new, ev_tst, ev_notT, ev_andT, ev_orT, ev_notF, ev_andF, ev_orF, ev_ifF, ev_yes, ev_iter, ev_rng1, ev_rng2, ev_rngW, ev_noP, ev_sl, ev_part, ev_next, ev_noG, ev_seq, ev_drop, ev_ret, ev_retN, ev_if, ev_asg, ev_setA, ev_nilA, ev_consA, ev_seqT, ev_seqL, ev_setN, ev_ok, ev_ioV, ev_ioU, ev_ioW, ev_owV, ev_owU, ev_own, ev_put, ev_ixOwn, ev_lenOwn, ev_setIx, ev_comp, ev_compL0, ev_compL1, ev_okC, ev_wipe1, ev_wipe0, ev_rest1, ev_rest0, ev_call, ev_callN, ev_ofr, ev_ofn, ev_ofnN, ev_mut, ev_mdl, ev_mdi, ev_io, ev_addI, ev_subI, ev_negI, ev_cmpI, ev_eqI, ev_neI, ev_eqS, ev_neS, ev_intI, ev_intB, ev_absI, ev_lenL, ev_lenT, ev_ixL, ev_ixT, ev_at0, ev_at1, ev_at2, ev_i30, ev_i31, ev_i32, ev_pk1, ev_pk2, ev_pk3, ev_pk4, ev_pkw1, ev_pkw2, ev_pkv2, ev_isI, ev_isN, ev_isB, ev_inI, ev_inN, ev_inB, ev_listT, ev_listL, ev_tupT, ev_tupL, ev_fld, ev_insAt, ev_fldOwn, ev_fldG, ev_meth, ev_make, ev_callL, ev_noLI, ev_nilL, ev_nameL, ev_lendL, ev_conL, ev_augIx, ev_putAt, ev_iadd, ev_isub, ev_revT, ev_enum, ev_zip, ev_seqDL, ev_seqDT, ev_nilM, ev_vaM, ev_owM, ev_parM, ev_app, ev_par, ev_par3, R.bind_ok, R.out_ok, Option.bind_some, List.getElem?_cons_succ, List.getElem?_cons_zero, List.set_cons_succ, List.set_cons_zero, List.length_cons, List.length_nil, Nat.reduceAdd, Nat.reduceEqDiff, List.getD_cons_succ, List.getD_cons_zero, decide_true, decide_false, Bool.and_true, Bool.and_self, and_self, true_and, List.all_cons, List.all_nil, Bool.not_true, Bool.not_false, if_true, Bool.true_eq_false, Bool.false_eq_true, if_false, ef, q8.1]
  · generalize (List.range n).map (fun i => D.lst (rowD n fun r => rops st idM r i)) = L at el ⊢
    generalize matT n (rops (st.reverse.map turn1) idM) = MB at el ⊢
    simp only [ev_name, ev_c, ev_op2, ev_op1, ev_toR1, ev_toRL1, ev_nil, ev_cons, ev_opn, ev_opnN, ev_tup, ev_lst, ev_lstN, ev_new, ev_tst, ev_notT, ev_andT, ev_orT, ev_notF, ev_andF, ev_orF, ev_ifF, ev_yes, ev_iter, ev_rng1, ev_rng2, ev_rngW, ev_noP, ev_sl, ev_part, ev_next, ev_noG, ev_seq, ev_drop, ev_ret, ev_retN, ev_if, ev_asg, ev_setA, ev_nilA, ev_consA, ev_seqT, ev_seqL, ev_setN, ev_ok, ev_ioV, ev_ioU, ev_ioW, ev_owV, ev_owU, ev_own, ev_put, ev_ixOwn, ev_lenOwn, ev_setIx, ev_comp, ev_compL0, ev_compL1, ev_okC, ev_wipe1, ev_wipe0, ev_rest1, ev_rest0, ev_call, ev_callN, ev_ofr, ev_ofn, ev_ofnN, ev_mut, ev_mdl, ev_mdi, ev_io, ev_addI, ev_subI, ev_negI, ev_cmpI, ev_eqI, ev_neI, ev_eqS, ev_neS, ev_intI, ev_intB, ev_absI, ev_lenL, ev_lenT, ev_ixL, ev_ixT, ev_at0, ev_at1, ev_at2, ev_i30, ev_i31, ev_i32, ev_pk1, ev_pk2, ev_pk3, ev_pk4, ev_pkw1, ev_pkw2, ev_pkv2, ev_isI, ev_isN, ev_isB, ev_inI, ev_inN, ev_inB, ev_listT, ev_listL, ev_tupT, ev_tupL, ev_fld, ev_insAt, ev_fldOwn, ev_fldG, ev_meth, ev_make, ev_callL, ev_noLI, ev_nilL, ev_nameL, ev_lendL, ev_conL, ev_augIx, ev_putAt, ev_iadd, ev_isub, ev_revT, ev_enum, ev_zip, ev_seqDL, ev_seqDT, ev_nilM, ev_vaM, ev_owM, ev_parM, ev_app, ev_par, ev_par3, R.bind_ok, R.out_ok, Option.bind_some, List.getElem?_cons_succ, List.getElem?_cons_zero, List.set_cons_succ, List.set_cons_zero, List.length_cons, List.length_nil, Nat.reduceAdd, Nat.reduceEqDiff, List.getD_cons_succ, List.getD_cons_zero, decide_true, decide_false, Bool.and_true, Bool.and_self, and_self, true_and, List.all_cons, List.all_nil, Bool.not_true, Bool.not_false, if_true, Bool.true_eq_false, Bool.false_eq_true, if_false, ev_for, el]
theorem law_true {ns : List Int} (h : ns.length ≤ 63) : F_law [.fz (ns.map D.int)] = .ret (.bl true) (.l []) := by
  obtain ⟨s', e, P', y2, y3, y4, y5, y6, y7, y8, y9, y10, y11, y12, y13, rfl, q2, q3, q4, q5, q6, q7, q8, q9, q10, q11, q12, q13, hP⟩ := forL_run (a := setA 2) (G1 := g_law_b4)
    (I := fun m s' => ∃ P' y2 y3 y4 y5 y6 y7 y8 y9 y10 y11 y12 y13, s' = [.va (.fz (ns.map D.int)), .ow (.l P'), y2, y3, y4, y5, y6, y7, y8, y9, y10, y11, y12, y13, .un] ∧ Pl y2 ∧ Pl y3 ∧ Pl y4 ∧ Pl y5 ∧ Pl y6 ∧ Pl y7 ∧ Pl y8 ∧ Pl y9 ∧ Pl y10 ∧ Pl y11 ∧ Pl y12 ∧ Pl y13 ∧ Pen (400 * m) P')
    (rngD 0 5) 0 [.va (.fz (ns.map D.int)), .ow (.l [.lst (ns.map D.int), .int 0, .int 0]), .un, .un, .un, .un, .un, .un, .un, .un, .un, .un, .un, .un, .un] ⟨_, _, _, _, _, _, _, _, _, _, _, _, _, rfl, Pl.un, Pl.un, Pl.un, Pl.un, Pl.un, Pl.un, Pl.un, Pl.un, Pl.un, Pl.un, Pl.un, Pl.un, ns, 0, 0, rfl, h, by decide, by decide⟩ fun m d s' e i => by
      obtain ⟨P', y2, y3, y4, y5, y6, y7, y8, y9, y10, y11, y12, y13, rfl, q2, q3, q4, q5, q6, q7, q8, q9, q10, q11, q12, q13, hP⟩ := i
      have hm : m < 5 := by
        have := (List.getElem?_eq_some_iff.mp e).1
        rw [rngD_length] at this
        omega
      have := rngD_get e
      subst this
      obtain ⟨P2, z3, z4, z5, z6, z7, z8, z9, z10, z11, z12, z13, e2, r3, r4, r5, r6, r7, r8, r9, r10, r11, r12, r13, g2⟩ := law_b4P (x0 := .va (.fz (ns.map D.int))) (j := 0 + (m : Int)) hP (by omega) q3 q4 q5 q6 q7 q8 q9 q10 q11 q12 q13 Pl.un
      refine ⟨[.va (.fz (ns.map D.int)), .ow (.l P'), .va (.int (0 + (m : Int))), y3, y4, y5, y6, y7, y8, y9, y10, y11, y12, y13, .un], _, ?_, .inl e2, P2, .va (.int (0 + (m : Int))), z3, z4, z5, z6, z7, z8, z9, z10, z11, z12, z13, rfl, Pl.va, r3, r4, r5, r6, r7, r8, r9, r10, r11, r12, r13, g2.mono (by omega)⟩
      simp only [ev_name, ev_c, ev_op2, ev_op1, ev_toR1, ev_toRL1, ev_nil, ev_cons, ev_opn, ev_opnN, ev_tup, ev_lst, ev_lstN, ev_new, ev_tst, ev_notT, ev_andT, ev_orT, ev_notF, ev_andF, ev_orF, ev_ifF, ev_yes, ev_iter, ev_rng1, ev_rng2, ev_rngW, ev_noP, ev_sl, ev_part, ev_next, ev_noG, ev_seq, ev_drop, ev_ret, ev_retN, ev_if, ev_asg, ev_setA, ev_nilA, ev_consA, ev_seqT, ev_seqL, ev_setN, ev_ok, ev_ioV, ev_ioU, ev_ioW, ev_owV, ev_owU, ev_own, ev_put, ev_ixOwn, ev_lenOwn, ev_setIx, ev_comp, ev_compL0, ev_compL1, ev_okC, ev_wipe1, ev_wipe0, ev_rest1, ev_rest0, ev_call, ev_callN, ev_ofr, ev_ofn, ev_ofnN, ev_mut, ev_mdl, ev_mdi, ev_io, ev_addI, ev_subI, ev_negI, ev_cmpI, ev_eqI, ev_neI, ev_eqS, ev_neS, ev_intI, ev_intB, ev_absI, ev_lenL, ev_lenT, ev_ixL, ev_ixT, ev_at0, ev_at1, ev_at2, ev_i30, ev_i31, ev_i32, ev_pk1, ev_pk2, ev_pk3, ev_pk4, ev_pkw1, ev_pkw2, ev_pkv2, ev_isI, ev_isN, ev_isB, ev_inI, ev_inN, ev_inB, ev_listT, ev_listL, ev_tupT, ev_tupL, ev_fld, ev_insAt, ev_fldOwn, ev_fldG, ev_meth, ev_make, ev_callL, ev_noLI, ev_nilL, ev_nameL, ev_lendL, ev_conL, ev_augIx, ev_putAt, ev_iadd, ev_isub, ev_revT, ev_enum, ev_zip, ev_seqDL, ev_seqDT, ev_nilM, ev_vaM, ev_owM, ev_parM, ev_app, ev_par, ev_par3, R.bind_ok, R.out_ok, Option.bind_some, List.getElem?_cons_succ, List.getElem?_cons_zero, List.set_cons_succ, List.set_cons_zero, List.length_cons, List.length_nil, Nat.reduceAdd, Nat.reduceEqDiff, List.getD_cons_succ, List.getD_cons_zero, decide_true, decide_false, Bool.and_true, Bool.and_self, and_self, true_and, List.all_cons, List.all_nil, Bool.not_true, Bool.not_false, if_true, Bool.true_eq_false, Bool.false_eq_true, if_false, q2.1]
  have p0 := pen0 h
  have n5 : sm62 5 = true := by decide
  have mk : makeF "Lift" F_Lift___init__ 3 (consF (cF (.int 2)) (consF (lstF (consF (tupF (consF (cF (.int 0)) (consF (lstF (consF (tupF (consF (cF (.int 1)) (consF (op1F negD (cF (.int 1))) nilF))) nilF)) (consF (cF (.int 0)) (consF (cF (.int 1)) nilF))))) (consF (tupF (consF (cF (.int 1)) (consF (lstF (consF (tupF (consF (cF (.int 0)) (consF (cF (.int 1)) nilF))) nilF)) (consF (cF (.int 5)) (consF (cF (.int 2)) nilF))))) nilF))) nilF)) [.va (.fz (ns.map D.int)), .ow (.l P'), y2, y3, y4, y5, y6, y7, y8, y9, y10, y11, y12, y13, .un] = .ok (liftD 2 stL) [.va (.fz (ns.map D.int)), .ow (.l P'), y2, y3, y4, y5, y6, y7, y8, y9, y10, y11, y12, y13, .un] := by
    refine makeE (ds := [.int 2, .lst [.tup [.int 0, .lst [.tup [.int 1, .int (-1)]], .int 0, .int 1], .tup [.int 1, .lst [.tup [.int 0, .int 1]], .int 5, .int 2]]]) ?_ rfl lastMk
    simp only [ev_name, ev_c, ev_op2, ev_op1, ev_toR1, ev_toRL1, ev_nil, ev_cons, ev_opn, ev_opnN, ev_tup, ev_lst, ev_lstN, ev_new, ev_tst, ev_notT, ev_andT, ev_orT, ev_notF, ev_andF, ev_orF, ev_ifF, ev_yes, ev_iter, ev_rng1, ev_rng2, ev_rngW, ev_noP, ev_sl, ev_part, ev_next, ev_noG, ev_seq, ev_drop, ev_ret, ev_retN, ev_if, ev_asg, ev_setA, ev_nilA, ev_consA, ev_seqT, ev_seqL, ev_setN, ev_ok, ev_ioV, ev_ioU, ev_ioW, ev_owV, ev_owU, ev_own, ev_put, ev_ixOwn, ev_lenOwn, ev_setIx, ev_comp, ev_compL0, ev_compL1, ev_okC, ev_wipe1, ev_wipe0, ev_rest1, ev_rest0, ev_call, ev_callN, ev_ofr, ev_ofn, ev_ofnN, ev_mut, ev_mdl, ev_mdi, ev_io, ev_addI, ev_subI, ev_negI, ev_cmpI, ev_eqI, ev_neI, ev_eqS, ev_neS, ev_intI, ev_intB, ev_absI, ev_lenL, ev_lenT, ev_ixL, ev_ixT, ev_at0, ev_at1, ev_at2, ev_i30, ev_i31, ev_i32, ev_pk1, ev_pk2, ev_pk3, ev_pk4, ev_pkw1, ev_pkw2, ev_pkv2, ev_isI, ev_isN, ev_isB, ev_inI, ev_inN, ev_inB, ev_listT, ev_listL, ev_tupT, ev_tupL, ev_fld, ev_insAt, ev_fldOwn, ev_fldG, ev_meth, ev_make, ev_callL, ev_noLI, ev_nilL, ev_nameL, ev_lendL, ev_conL, ev_augIx, ev_putAt, ev_iadd, ev_isub, ev_revT, ev_enum, ev_zip, ev_seqDL, ev_seqDT, ev_nilM, ev_vaM, ev_owM, ev_parM, ev_app, ev_par, ev_par3, R.bind_ok, R.out_ok, Option.bind_some, List.getElem?_cons_succ, List.getElem?_cons_zero, List.set_cons_succ, List.set_cons_zero, List.length_cons, List.length_nil, Nat.reduceAdd, Nat.reduceEqDiff, List.getD_cons_succ, List.getD_cons_zero, decide_true, decide_false, Bool.and_true, Bool.and_self, and_self, true_and, List.all_cons, List.all_nil, Bool.not_true, Bool.not_false, if_true, Bool.true_eq_false, Bool.false_eq_true, if_false, sz1, sz2, sz4]
  have ef := methE (cn := "Lift") (m := "far") (Fn := F_Lift_far) (n := 1) (gD := pickG 1 0 [] [0]) (k := nilF) (kk := nilF) mk rfl rfl rfl rfl (farP (n := 2) rfl (by decide) lastOk (by decide))
  rw [lastM] at ef
  have e9 : eqD (.tup [.tup [.tup [.int 1, .int 1], .tup [.int (-1), .int 1]], .tup [.tup [.int 1, .int 2], .tup [.int 1, .int 2]]]) (.tup [.tup [.tup [.int 1, .int 1], .tup [.int (-1), .int 1]], .tup [.tup [.int 1, .int 2], .tup [.int 1, .int 2]]]) = some (.bl true) := eq_same (by decide +kernel) (by decide +kernel)
  show outF false (g_law [.va (.fz (ns.map D.int)), .un, .un, .un, .un, .un, .un, .un, .un, .un, .un, .un, .un, .un, .un]) = _
  rw [show (FR.ret (D.bl true) (MO.l [])) = outF false (.rt (.bl true) [.va (.fz (ns.map D.int)), .ow (.l P'), y2, y3, y4, y5, y6, y7, y8, y9, y10, y11, y12, y13, .un]) from rfl]
  refine congrArg (outF false) ?_
  unfold g_law
  generalize g_law_b4 = B4 at e ⊢
  refine (seqE (s1 := [.va (.fz (ns.map D.int)), .ow (.l [.lst (ns.map D.int), .int 0, .int 0]), .un, .un, .un, .un, .un, .un, .un, .un, .un, .un, .un, .un, .un]) ?_).trans ?_
  · simp only [ev_name, ev_c, ev_op2, ev_op1, ev_toR1, ev_toRL1, ev_nil, ev_cons, ev_opn, ev_opnN, ev_tup, ev_lst, ev_lstN, ev_new, ev_tst, ev_notT, ev_andT, ev_orT, ev_notF, ev_andF, ev_orF, ev_ifF, ev_yes, ev_iter, ev_rng1, ev_rng2, ev_rngW, ev_noP, ev_sl, ev_part, ev_next, ev_noG, ev_seq, ev_drop, ev_ret, ev_retN, ev_if, ev_asg, ev_setA, ev_nilA, ev_consA, ev_seqT, ev_seqL, ev_setN, ev_ok, ev_ioV, ev_ioU, ev_ioW, ev_owV, ev_owU, ev_own, ev_put, ev_ixOwn, ev_lenOwn, ev_setIx, ev_comp, ev_compL0, ev_compL1, ev_okC, ev_wipe1, ev_wipe0, ev_rest1, ev_rest0, ev_call, ev_callN, ev_ofr, ev_ofn, ev_ofnN, ev_mut, ev_mdl, ev_mdi, ev_io, ev_addI, ev_subI, ev_negI, ev_cmpI, ev_eqI, ev_neI, ev_eqS, ev_neS, ev_intI, ev_intB, ev_absI, ev_lenL, ev_lenT, ev_ixL, ev_ixT, ev_at0, ev_at1, ev_at2, ev_i30, ev_i31, ev_i32, ev_pk1, ev_pk2, ev_pk3, ev_pk4, ev_pkw1, ev_pkw2, ev_pkv2, ev_isI, ev_isN, ev_isB, ev_inI, ev_inN, ev_inB, ev_listT, ev_listL, ev_tupT, ev_tupL, ev_fld, ev_insAt, ev_fldOwn, ev_fldG, ev_meth, ev_make, ev_callL, ev_noLI, ev_nilL, ev_nameL, ev_lendL, ev_conL, ev_augIx, ev_putAt, ev_iadd, ev_isub, ev_revT, ev_enum, ev_zip, ev_seqDL, ev_seqDT, ev_nilM, ev_vaM, ev_owM, ev_parM, ev_app, ev_par, ev_par3, R.bind_ok, R.out_ok, Option.bind_some, List.getElem?_cons_succ, List.getElem?_cons_zero, List.set_cons_succ, List.set_cons_zero, List.length_cons, List.length_nil, Nat.reduceAdd, Nat.reduceEqDiff, List.getD_cons_succ, List.getD_cons_zero, decide_true, decide_false, Bool.and_true, Bool.and_self, and_self, true_and, List.all_cons, List.all_nil, Bool.not_true, Bool.not_false, if_true, Bool.true_eq_false, Bool.false_eq_true, if_false, p0]
  refine (seqE (s1 := [.va (.fz (ns.map D.int)), .ow (.l P'), y2, y3, y4, y5, y6, y7, y8, y9, y10, y11, y12, y13, .un]) ?_).trans ?_
  · simp only [ev_name, ev_c, ev_op2, ev_op1, ev_toR1, ev_toRL1, ev_nil, ev_cons, ev_opn, ev_opnN, ev_tup, ev_lst, ev_lstN, ev_new, ev_tst, ev_notT, ev_andT, ev_orT, ev_notF, ev_andF, ev_orF, ev_ifF, ev_yes, ev_iter, ev_rng1, ev_rng2, ev_rngW, ev_noP, ev_sl, ev_part, ev_next, ev_noG, ev_seq, ev_drop, ev_ret, ev_retN, ev_if, ev_asg, ev_setA, ev_nilA, ev_consA, ev_seqT, ev_seqL, ev_setN, ev_ok, ev_ioV, ev_ioU, ev_ioW, ev_owV, ev_owU, ev_own, ev_put, ev_ixOwn, ev_lenOwn, ev_setIx, ev_comp, ev_compL0, ev_compL1, ev_okC, ev_wipe1, ev_wipe0, ev_rest1, ev_rest0, ev_call, ev_callN, ev_ofr, ev_ofn, ev_ofnN, ev_mut, ev_mdl, ev_mdi, ev_io, ev_addI, ev_subI, ev_negI, ev_cmpI, ev_eqI, ev_neI, ev_eqS, ev_neS, ev_intI, ev_intB, ev_absI, ev_lenL, ev_lenT, ev_ixL, ev_ixT, ev_at0, ev_at1, ev_at2, ev_i30, ev_i31, ev_i32, ev_pk1, ev_pk2, ev_pk3, ev_pk4, ev_pkw1, ev_pkw2, ev_pkv2, ev_isI, ev_isN, ev_isB, ev_inI, ev_inN, ev_inB, ev_listT, ev_listL, ev_tupT, ev_tupL, ev_fld, ev_insAt, ev_fldOwn, ev_fldG, ev_meth, ev_make, ev_callL, ev_noLI, ev_nilL, ev_nameL, ev_lendL, ev_conL, ev_augIx, ev_putAt, ev_iadd, ev_isub, ev_revT, ev_enum, ev_zip, ev_seqDL, ev_seqDT, ev_nilM, ev_vaM, ev_owM, ev_parM, ev_app, ev_par, ev_par3, R.bind_ok, R.out_ok, Option.bind_some, List.getElem?_cons_succ, List.getElem?_cons_zero, List.set_cons_succ, List.set_cons_zero, List.length_cons, List.length_nil, Nat.reduceAdd, Nat.reduceEqDiff, List.getD_cons_succ, List.getD_cons_zero, decide_true, decide_false, Bool.and_true, Bool.and_self, and_self, true_and, List.all_cons, List.all_nil, Bool.not_true, Bool.not_false, if_true, Bool.true_eq_false, Bool.false_eq_true, if_false, ev_for, n5, e]
  · generalize methF "Lift" "far" F_Lift_far 1 (pickG 1 0 [] [0]) (makeF "Lift" F_Lift___init__ 3 (consF (cF (.int 2)) (consF (lstF (consF (tupF (consF (cF (.int 0)) (consF (lstF (consF (tupF (consF (cF (.int 1)) (consF (op1F negD (cF (.int 1))) nilF))) nilF)) (consF (cF (.int 0)) (consF (cF (.int 1)) nilF))))) (consF (tupF (consF (cF (.int 1)) (consF (lstF (consF (tupF (consF (cF (.int 0)) (consF (cF (.int 1)) nilF))) nilF)) (consF (cF (.int 5)) (consF (cF (.int 2)) nilF))))) nilF))) nilF))) nilF nilF = Q at ef ⊢
    simp only [ev_name, ev_c, ev_op2, ev_op1, ev_toR1, ev_toRL1, ev_nil, ev_cons, ev_opn, ev_opnN, ev_tup, ev_lst, ev_lstN, ev_new, ev_tst, ev_notT, ev_andT, ev_orT, ev_notF, ev_andF, ev_orF, ev_ifF, ev_yes, ev_iter, ev_rng1, ev_rng2, ev_rngW, ev_noP, ev_sl, ev_part, ev_next, ev_noG, ev_seq, ev_drop, ev_ret, ev_retN, ev_if, ev_asg, ev_setA, ev_nilA, ev_consA, ev_seqT, ev_seqL, ev_setN, ev_ok, ev_ioV, ev_ioU, ev_ioW, ev_owV, ev_owU, ev_own, ev_put, ev_ixOwn, ev_lenOwn, ev_setIx, ev_comp, ev_compL0, ev_compL1, ev_okC, ev_wipe1, ev_wipe0, ev_rest1, ev_rest0, ev_call, ev_callN, ev_ofr, ev_ofn, ev_ofnN, ev_mut, ev_mdl, ev_mdi, ev_io, ev_addI, ev_subI, ev_negI, ev_cmpI, ev_eqI, ev_neI, ev_eqS, ev_neS, ev_intI, ev_intB, ev_absI, ev_lenL, ev_lenT, ev_ixL, ev_ixT, ev_at0, ev_at1, ev_at2, ev_i30, ev_i31, ev_i32, ev_pk1, ev_pk2, ev_pk3, ev_pk4, ev_pkw1, ev_pkw2, ev_pkv2, ev_isI, ev_isN, ev_isB, ev_inI, ev_inN, ev_inB, ev_listT, ev_listL, ev_tupT, ev_tupL, ev_fld, ev_insAt, ev_fldOwn, ev_fldG, ev_meth, ev_make, ev_callL, ev_noLI, ev_nilL, ev_nameL, ev_lendL, ev_conL, ev_augIx, ev_putAt, ev_iadd, ev_isub, ev_revT, ev_enum, ev_zip, ev_seqDL, ev_seqDT, ev_nilM, ev_vaM, ev_owM, ev_parM, ev_app, ev_par, ev_par3, R.bind_ok, R.out_ok, Option.bind_some, List.getElem?_cons_succ, List.getElem?_cons_zero, List.set_cons_succ, List.set_cons_zero, List.length_cons, List.length_nil, Nat.reduceAdd, Nat.reduceEqDiff, List.getD_cons_succ, List.getD_cons_zero, decide_true, decide_false, Bool.and_true, Bool.and_self, and_self, true_and, List.all_cons, List.all_nil, Bool.not_true, Bool.not_false, if_true, Bool.true_eq_false, Bool.false_eq_true, if_false, ef, sz2, e9]
theorem law_end : ∀ (K : PySem.W.Frag) (H : Hp) (a : Addr) (ns : List Int), ns.length ≤ 63 → (Rd H a (.lst (ns.map V.int)) ∨ ∀ H, SqL K H a (ns.map V.int)) → spF K false 1 F_law [.ref a] H (fun v _ => v = .bl true) (fun _ _ _ => False) := fun K H a ns hl h => law_end_of (fun _ h => law_true h) K H a ns hl h
end Fx

open PySem PySem.W PyProof.Rows
set_option maxRecDepth 100000 in
set_option maxHeartbeats 0 in
theorem PySem.Challenge.cw_saveagain_k05_whole_matrices_without_rou_holds : PySem.Challenge.rw_saveagain_k05_whole_matrices_without_rou.Holds := by
  w_on; o_law; k_head; (case hw => w_witness2)
  k_fill
  refine Fx.walkG (l := PySem.Challenge.rw_saveagain_k05_whole_matrices_without_rou) (n := 63) (k := 13) (x := "script") (sp := fun K => Fx.spF K false 1 Fx.F_law) rfl (by decide) rfl ⟨rfl, by decide, by decide⟩ (fun w h Y => PySem.W.kIn_of Y) ?F Fx.law_end
  case F =>
    intro w mg fa h KX G hmg
    refine' Fx.all_mk KX G hmg ?x0 ?pg0 ?hd0 ?po0 ?sa0 ?mk0 ?kc0 ?a0 ?l0 ?c0 ?k0 ?a1 ?l1 ?c1 ?k1 ?a2 ?l2 ?c2 ?k2 ?a3 ?l3 ?c3 ?k3 ?a4 ?l4 ?c4 ?k4 ?a5 ?l5 ?c5 ?k5 ?a6 ?l6 ?c6 ?k6 ?a7 ?l7 ?c7 ?k7 ?a8 ?l8 ?c8 ?k8 ?a9 ?l9 ?c9 ?k9 ?a10 ?l10 ?c10 ?k10 ?a11 ?l11 ?c11 ?k11 ?a12 ?l12 ?c12 ?k12 ?a13 ?l13 ?c13 ?k13 ?a14 ?i14 ?l14 ?c14 ?k14 ?a15 ?l15 ?c15 ?k15 ?a16 ?l16 ?c16 ?k16 ?a17 ?i17 ?l17 ?c17 ?k17 ?a18 ?l18 ?c18 ?k18 ?a19 ?l19 ?c19 ?k19 ?a20 ?l20 ?c20 ?k20 ?a21 ?l21 ?c21 ?k21 ?a22 ?l22 ?c22 ?k22 ?a23 ?l23 ?c23 ?k23 ?a24 ?l24 ?c24 ?k24 ?a25 ?l25 ?c25 ?k25 ?a26 ?i26 ?l26 ?c26 ?k26 ?a27 ?l27 ?c27 ?k27 ?a28 ?l28 ?c28 ?k28 ?a29 ?l29 ?c29 ?k29 ?a30 ?l30 ?c30 ?k30 ?a31 ?i31 ?l31 ?c31 ?k31 ?a32 ?l32 ?c32 ?k32 ?z0 ?z1 ?z2 ?z3 ?z4 ?z5 ?z6 ?z7 ?z8 ?z9 ?z10 ?z11 ?z12 ?v0 ?v1 ?v2 ?v3 ?v4 ?mm_gcd ?na0 ?na1
    (case x0 => k_is); (case pg0 => k_is); (case hd0 => k_is); (case po0 => k_is); (case sa0 => k_is); (case mk0 => k_is); (case kc0 => k_is); (case a0 => k_is); (case l0 => k_is); (case c0 => k_is); (case k0 => k_is); (case a1 => k_is); (case l1 => k_is); (case c1 => k_is); (case k1 => k_is); (case a2 => k_is); (case l2 => k_is); (case c2 => k_is); (case k2 => k_is); (case a3 => k_is); (case l3 => k_is); (case c3 => k_is); (case k3 => k_is); (case a4 => k_is); (case l4 => k_is); (case c4 => k_is); (case k4 => k_is); (case a5 => k_is); (case l5 => k_is); (case c5 => k_is); (case k5 => k_is); (case a6 => k_is); (case l6 => k_is); (case c6 => k_is); (case k6 => k_is); (case a7 => k_is); (case l7 => k_is); (case c7 => k_is); (case k7 => k_is); (case a8 => k_is); (case l8 => k_is); (case c8 => k_is); (case k8 => k_is); (case a9 => k_is); (case l9 => k_is); (case c9 => k_is); (case k9 => k_is); (case a10 => k_is); (case l10 => k_is); (case c10 => k_is); (case k10 => k_is); (case a11 => k_is); (case l11 => k_is); (case c11 => k_is); (case k11 => k_is); (case a12 => k_is); (case l12 => k_is); (case c12 => k_is); (case k12 => k_is); (case a13 => k_is); (case l13 => k_is); (case c13 => k_is); (case k13 => k_is); (case a14 => k_is); (case i14 => k_is); (case l14 => k_is); (case c14 => k_is); (case k14 => k_is); (case a15 => k_is); (case l15 => k_is); (case c15 => k_is); (case k15 => k_is); (case a16 => k_is); (case l16 => k_is); (case c16 => k_is); (case k16 => k_is); (case a17 => k_is); (case i17 => k_is); (case l17 => k_is); (case c17 => k_is); (case k17 => k_is); (case a18 => k_is); (case l18 => k_is); (case c18 => k_is); (case k18 => k_is); (case a19 => k_is); (case l19 => k_is); (case c19 => k_is); (case k19 => k_is); (case a20 => k_is); (case l20 => k_is); (case c20 => k_is); (case k20 => k_is); (case a21 => k_is); (case l21 => k_is); (case c21 => k_is); (case k21 => k_is); (case a22 => k_is); (case l22 => k_is); (case c22 => k_is); (case k22 => k_is); (case a23 => k_is); (case l23 => k_is); (case c23 => k_is); (case k23 => k_is); (case a24 => k_is); (case l24 => k_is); (case c24 => k_is); (case k24 => k_is); (case a25 => k_is); (case l25 => k_is); (case c25 => k_is); (case k25 => k_is); (case a26 => k_is); (case i26 => k_is); (case l26 => k_is); (case c26 => k_is); (case k26 => k_is); (case a27 => k_is); (case l27 => k_is); (case c27 => k_is); (case k27 => k_is); (case a28 => k_is); (case l28 => k_is); (case c28 => k_is); (case k28 => k_is); (case a29 => k_is); (case l29 => k_is); (case c29 => k_is); (case k29 => k_is); (case a30 => k_is); (case l30 => k_is); (case c30 => k_is); (case k30 => k_is); (case a31 => k_is); (case i31 => k_is); (case l31 => k_is); (case c31 => k_is); (case k31 => k_is); (case a32 => k_is); (case l32 => k_is); (case c32 => k_is); (case k32 => k_is); (case z0 => k_is); (case z1 => k_is); (case z2 => k_is); (case z3 => k_is); (case z4 => k_is); (case z5 => k_is); (case z6 => k_is); (case z7 => k_is); (case z8 => k_is); (case z9 => k_is); (case z10 => k_is); (case z11 => k_is); (case z12 => k_is); (case v0 => k_is); (case v1 => k_is); (case v2 => k_is); (case v3 => k_is); (case v4 => k_is); (case mm_gcd => k_is); (case na0 => k_is); (case na1 => k_is)
