import PyProof.Rows.All
import Wide.All
import OpenK.AllK
import Wide.FinOn
import HandS.ForSpec
import HandS.ForMost
import HandS.Defaults
import HandS.IsInst
import HandS.SortInts
import HandS.Wide
import HandS.TupAny
import HandS.TupLe
import HandS.TupMul
import HandS.Conv
import HandS.Style
import HandS.Zip
import HandS.RaiseMore
import HandS.TupSets
import PySem.Challenge.RW_saveagain_k06_whole_rounding_to_points
set_option Elab.async false
set_option linter.all false
set_option maxRecDepth 100000
/-! Fx: pieces of Python described by plain functions on data. -/
namespace Fx
open PySem L2

/-- data -/
inductive D where
  | non | bl (b : Bool) | int (i : Int) | str (x : Str) | ref (a : Addr) | ty (n : String)
  | tup (xs : List D) | lst (xs : List D) | fz (xs : List D) | ins (C : Addr) (fs : List (Str × D))
/-- a tuple of the written part -/
def KTup (K : PySem.W.Frag) (a : Addr) (xs : List V) : Prop := ∃ (o : Obj) (its : Array Value) (n : Nat), K.lookup a = some o ∧ o.cls = .type "tuple" ∧ o.data = .seq its n ∧ its.size ≤ sizeLine ∧ Vals xs its.toList
theorem KTup.sq {K : PySem.W.Frag} {a : Addr} {xs : List V} (h : KTup K a xs) (H : Hp) : SqT K H a xs := .inr h

abbrev MS := Addr → Prop

mutual
/-- a value and the data it stands for; M: the objects that may still be changed -/
inductive Rp (K : PySem.W.Frag) (M : MS) (H : Hp) : V → D → Prop
  | non : Rp K M H .non .non
  | bl (b : Bool) : Rp K M H (.bl b) (.bl b)
  | int (i : Int) : Rp K M H (.int i) (.int i)
  | str (x : Str) : Rp K M H (.str x) (.str x)
  | ty (n : String) : Rp K M H (.ty n) (.ty n)
  | ref (a : Addr) : Rp K M H (.ref a) (.ref a)
  | lst {a : Addr} {xs : List V} {ds : List D} : H a = some (.lst xs) → ¬ M a → RpL K M H xs ds → Rp K M H (.ref a) (.lst ds)
  | fz {a : Addr} {xs : List V} {ds : List D} : Rd H a (.lst xs) → ¬ M a → RpL K M H xs ds → Rp K M H (.ref a) (.fz ds)
  | fzK {a : Addr} {xs : List V} {ds : List D} : (∀ H, SqL K H a xs) → RpL K M H xs ds → Rp K M H (.ref a) (.fz ds)
  | tup {a : Addr} {xs : List V} {ds : List D} : H a = some (.tup xs) → RpL K M H xs ds → Rp K M H (.ref a) (.tup ds)
  | tupK {a : Addr} {xs : List V} {ds : List D} : KTup K a xs → RpL K M H xs ds → Rp K M H (.ref a) (.tup ds)
  | ins {a C dx : Addr} {fs : List (Str × V)} {gs : List (Str × D)} : H a = some (.ins C dx fs) → ¬ M a → fs.map (·.1) = gs.map (·.1) → RpL K M H (fs.map (·.2)) (gs.map (·.2)) → Rp K M H (.ref a) (.ins C gs)
inductive RpL (K : PySem.W.Frag) (M : MS) (H : Hp) : List V → List D → Prop
  | nil : RpL K M H [] []
  | cons {v : V} {vs : List V} {d : D} {ds : List D} : Rp K M H v d → RpL K M H vs ds → RpL K M H (v :: vs) (d :: ds)
end

/-- what may be changed stands -/
def MOk (M : MS) (H : Hp) : Prop := ∀ b, M b → Mut (H b)
/-- all but M is as it was -/
def Step (M : MS) (H H' : Hp) : Prop := ∀ b o, H b = some o → ¬ M b → H' b = some o
def Sub (M' M : MS) : Prop := ∀ b, M' b → M b
theorem Sub.rfl {M : MS} : Sub M M := fun _ h => h
theorem Sub.trans {M M' M'' : MS} (a : Sub M'' M') (b : Sub M' M) : Sub M'' M := fun x h => b x (a x h)
theorem Step.rfl {M : MS} {H : Hp} : Step M H H := fun _ _ h _ => h
theorem Step.trans {M M' : MS} {H H1 H2 : Hp} (a : Step M H H1) (b : Step M' H1 H2) (s : Sub M' M) : Step M H H2 := fun c o h n => b c o (a c o h n) fun z => n (s c z)
theorem Step.same {M : MS} {H H' : Hp} (h : Same H H') : Step M H H' := fun b o e _ => h b o e
theorem MOk.notTup {M : MS} {H : Hp} {a : Addr} {xs : List V} (m : MOk M H) (h : H a = some (.tup xs)) : ¬ M a := fun z => by
  have := m a z
  rw [h] at this
  exact this
theorem MOk.notFrz {M : MS} {H : Hp} {a : Addr} {o : Obj} {u : HO} (m : MOk M H) (h : H a = some (.frz o u)) : ¬ M a := fun z => by
  have := m a z
  rw [h] at this
  exact this
theorem MOk.same {M : MS} {H H' : Hp} (m : MOk M H) (s : Same H H') : MOk M H' := fun b z => by
  have q := m b z
  cases e : H b with
  | none => rw [e] at q; exact False.elim q
  | some o => rw [s b o e, ← e]; exact q
theorem MOk.there {M : MS} {H : Hp} {a : Addr} (m : MOk M H) (h : H a = none) : ¬ M a := fun z => by
  have q := m a z
  rw [h] at q
  exact q
theorem Rd.step {M : MS} {H H' : Hp} {a : Addr} {u : HO} (s : Step M H H') (n : ¬ M a) (h : Rd H a u) : Rd H' a u := by
  rcases h with h | ⟨o, h⟩
  · exact .inl (s a _ h n)
  · exact .inr ⟨o, s a _ h n⟩
theorem Rd.notMT {M : MS} {H : Hp} {a : Addr} {xs : List V} (m : MOk M H) (h : Rd H a (.tup xs)) : ¬ M a := by
  rcases h with h | ⟨o, h⟩
  · exact m.notTup h
  · exact m.notFrz h

/-- what comes behind: what is held to be changeable was so or is new; all else is as it was -/
structure Ev (M : MS) (H : Hp) (M' : MS) (H' : Hp) : Prop where
  old : ∀ b, M' b → M b ∨ H b = none
  st : Step M H H'
theorem Ev.rfl {M : MS} {H : Hp} : Ev M H M H := ⟨fun _ h => .inl h, .rfl⟩
theorem Ev.trans {M M1 M2 : MS} {H H1 H2 : Hp} (a : Ev M H M1 H1) (b : Ev M1 H1 M2 H2) : Ev M H M2 H2 := by
  refine ⟨fun c h => ?_, fun c o h n => b.st c o (a.st c o h n) fun z => ?_⟩
  · rcases b.old c h with h | h
    · exact a.old c h
    · by_cases hm : M c
      · exact .inl hm
      · refine .inr ?_
        cases e : H c with
        | none => rfl
        | some o =>
          rw [a.st c o e hm] at h
          cases h
  · rcases a.old c z with z | z
    · exact n z
    · rw [h] at z
      cases z
theorem Ev.same {M : MS} {H H' : Hp} (h : Same H H') : Ev M H M H' := ⟨fun _ h => .inl h, .same h⟩
theorem Ev.sub {M M' : MS} {H : Hp} (h : Sub M' M) : Ev M H M' H := ⟨fun b z => .inl (h b z), .rfl⟩
theorem Ev.not {M M' : MS} {H H' : Hp} {a : Addr} {o : HO} (e : Ev M H M' H') (h : H a = some o) (n : ¬ M a) : ¬ M' a := fun z => by
  rcases e.old a z with z | z
  · exact n z
  · rw [h] at z
    cases z
theorem Ev.notR {M M' : MS} {H H' : Hp} {a : Addr} {u : HO} (e : Ev M H M' H') (h : Rd H a u) (n : ¬ M a) : ¬ M' a := by
  rcases h with h | ⟨o, h⟩
  · exact e.not h n
  · exact e.not h n
mutual
theorem Rp.move {K : PySem.W.Frag} {M M' : MS} {H H' : Hp} (m : MOk M H) (v : Ev M H M' H') : ∀ {v : V} {d : D}, Rp K M H v d → Rp K M' H' v d
  | _, _, .non => .non
  | _, _, .bl b => .bl b
  | _, _, .int i => .int i
  | _, _, .str x => .str x
  | _, _, .ty n => .ty n
  | _, _, .ref a => .ref a
  | _, _, .lst h n l => .lst (v.st _ _ h n) (v.not h n) (RpL.move m v l)
  | _, _, .fz h n l => .fz (Rd.step v.st n h) (v.notR h n) (RpL.move m v l)
  | _, _, .fzK h l => .fzK h (RpL.move m v l)
  | _, _, .tup h l => .tup (v.st _ _ h (m.notTup h)) (RpL.move m v l)
  | _, _, .tupK h l => .tupK h (RpL.move m v l)
  | _, _, .ins h n e l => .ins (v.st _ _ h n) (v.not h n) e (RpL.move m v l)
theorem RpL.move {K : PySem.W.Frag} {M M' : MS} {H H' : Hp} (m : MOk M H) (v : Ev M H M' H') : ∀ {vs : List V} {ds : List D}, RpL K M H vs ds → RpL K M' H' vs ds
  | _, _, .nil => .nil
  | _, _, .cons h t => .cons (Rp.move m v h) (RpL.move m v t)
end
/-- M and one more -/
def With (M : MS) (p : Addr) : MS := fun b => M b ∨ b = p
def Wout (M : MS) (p : Addr) : MS := fun b => M b ∧ b ≠ p
theorem Rd.laid {H : Hp} {p a : Addr} {o u : HO} (e : H p = none) (h : Rd H a u) : Rd (upd H p o) a u ∧ a ≠ p := by
  rcases h with h | ⟨q, h⟩
  · exact ⟨.inl (by rw [upd_ne (ne_of_none h e)]; exact h), ne_of_none h e⟩
  · exact ⟨.inr ⟨q, by rw [upd_ne (ne_of_none h e)]; exact h⟩, ne_of_none h e⟩
mutual
/-- a fresh address is reached by nothing -/
theorem Rp.grow1 {K : PySem.W.Frag} {M : MS} {H : Hp} {p : Addr} {o : HO} (e : H p = none) : ∀ {v : V} {d : D}, Rp K M H v d → Rp K (With M p) (upd H p o) v d
  | _, _, .non => .non
  | _, _, .bl b => .bl b
  | _, _, .int i => .int i
  | _, _, .str x => .str x
  | _, _, .ty n => .ty n
  | _, _, .ref a => .ref a
  | _, _, .lst h n l => .lst (by rw [upd_ne (ne_of_none h e)]; exact h) (fun z => z.elim n (ne_of_none h e)) (RpL.grow1 e l)
  | _, _, .fz h n l => .fz (Rd.laid e h).1 (fun z => z.elim n (Rd.laid (o := o) e h).2) (RpL.grow1 e l)
  | _, _, .fzK h l => .fzK h (RpL.grow1 e l)
  | _, _, .tup h l => .tup (by rw [upd_ne (ne_of_none h e)]; exact h) (RpL.grow1 e l)
  | _, _, .tupK h l => .tupK h (RpL.grow1 e l)
  | _, _, .ins h n q l => .ins (by rw [upd_ne (ne_of_none h e)]; exact h) (fun z => z.elim n (ne_of_none h e)) q (RpL.grow1 e l)
theorem RpL.grow1 {K : PySem.W.Frag} {M : MS} {H : Hp} {p : Addr} {o : HO} (e : H p = none) : ∀ {vs : List V} {ds : List D}, RpL K M H vs ds → RpL K (With M p) (upd H p o) vs ds
  | _, _, .nil => .nil
  | _, _, .cons h t => .cons (Rp.grow1 e h) (RpL.grow1 e t)
end
theorem RpL.length {K : PySem.W.Frag} {M : MS} {H : Hp} : ∀ {vs : List V} {ds : List D}, RpL K M H vs ds → vs.length = ds.length
  | _, _, .nil => rfl
  | _, _, .cons _ t => congrArg Nat.succ t.length
theorem RpL.get {K : PySem.W.Frag} {M : MS} {H : Hp} : ∀ {vs : List V} {ds : List D} {i : Nat} {d : D}, RpL K M H vs ds → ds[i]? = some d → ∃ v, vs[i]? = some v ∧ Rp K M H v d
  | _, _, _, _, .nil, e => by simp at e
  | _, _, 0, _, .cons r _, e => by simp at e; subst e; exact ⟨_, rfl, r⟩
  | _, _, i + 1, d, .cons _ t, e => by
    obtain ⟨v, h1, h2⟩ := RpL.get (i := i) (d := d) t (by simpa using e)
    exact ⟨v, by simpa using h1, h2⟩
theorem RpL.get' {K : PySem.W.Frag} {M : MS} {H : Hp} : ∀ {vs : List V} {ds : List D} {i : Nat} {v : V}, RpL K M H vs ds → vs[i]? = some v → ∃ d, ds[i]? = some d ∧ Rp K M H v d
  | _, _, _, _, .nil, e => by simp at e
  | _, _, 0, _, .cons r _, e => by simp at e; subst e; exact ⟨_, rfl, r⟩
  | _, _, i + 1, v, .cons _ t, e => by
    obtain ⟨d, h1, h2⟩ := RpL.get' (i := i) (v := v) t (by simpa using e)
    exact ⟨d, by simpa using h1, h2⟩
theorem RpL.append {K : PySem.W.Frag} {M : MS} {H : Hp} : ∀ {vs ws : List V} {ds es : List D}, RpL K M H vs ds → RpL K M H ws es → RpL K M H (vs ++ ws) (ds ++ es)
  | _, _, _, _, .nil, s => s
  | _, _, _, _, .cons r t, s => .cons r (RpL.append t s)
theorem RpL.take {K : PySem.W.Frag} {M : MS} {H : Hp} : ∀ {vs : List V} {ds : List D} (n : Nat), RpL K M H vs ds → RpL K M H (vs.take n) (ds.take n)
  | _, _, 0, _ => .nil
  | _, _, _ + 1, .nil => .nil
  | _, _, n + 1, .cons r t => .cons r (RpL.take n t)
theorem RpL.drop {K : PySem.W.Frag} {M : MS} {H : Hp} : ∀ {vs : List V} {ds : List D} (n : Nat), RpL K M H vs ds → RpL K M H (vs.drop n) (ds.drop n)
  | _, _, 0, r => r
  | _, _, _ + 1, .nil => .nil
  | _, _, n + 1, .cons _ t => RpL.drop n t
theorem RpL.set {K : PySem.W.Frag} {M : MS} {H : Hp} {v : V} {d : D} (r : Rp K M H v d) : ∀ {vs : List V} {ds : List D} (i : Nat), RpL K M H vs ds → RpL K M H (vs.set i v) (ds.set i d)
  | _, _, _, .nil => .nil
  | _, _, 0, .cons _ t => .cons r t
  | _, _, i + 1, .cons q t => .cons q (RpL.set r i t)
theorem RpL.snoc {K : PySem.W.Frag} {M : MS} {H : Hp} {v : V} {d : D} {vs : List V} {ds : List D} (h : RpL K M H vs ds) (r : Rp K M H v d) : RpL K M H (vs ++ [v]) (ds ++ [d]) := h.append (.cons r .nil)

/-! ### slots -/
inductive Sl where
  | un | va (d : D) | ow (ds : List D) | io (ds : List D)
/-- what stays the same in a def's body -/
structure Bs where
  K : PySem.W.Frag
  H0 : Hp
  Mc : MS
  pa : Option Addr
  /-- objects that nobody may touch for now -/
  L : Addr → Option HO
/-- a slot's own list, or the one handed in -/
def Own (σ : L2.St) (s : List Sl) (a : Addr) : Prop := ∃ (i : Nat) (ds : List D), (s[i]? = some (.ow ds) ∨ s[i]? = some (.io ds)) ∧ σ[i]? = some (some (.ref a))

structure SR (B : Bs) (M : MS) (σ : L2.St) (H : Hp) (s : List Sl) : Prop where
  va : ∀ (i : Nat) (d : D), s[i]? = some (.va d) → ∃ v, σ[i]? = some (some v) ∧ Rp B.K M H v d
  ow : ∀ (i : Nat) (ds : List D), s[i]? = some (.ow ds) → ∃ a xs, σ[i]? = some (some (.ref a)) ∧ H a = some (.lst xs) ∧ M a ∧ B.H0 a = none ∧ RpL B.K M H xs ds
  io : ∀ (i : Nat) (ds : List D), s[i]? = some (.io ds) → i = 0 ∧ ∃ a xs, B.pa = some a ∧ σ[0]? = some (some (.ref a)) ∧ H a = some (.lst xs) ∧ M a ∧ RpL B.K M H xs ds
  pa : ∀ a, B.pa = some a → B.Mc a ∧ ∃ ds : List D, s[0]? = some (Sl.io ds)
  ne : ∀ (i j : Nat) (ds es : List D) (a : Addr), i ≠ j → s[i]? = some (.ow ds) → s[j]? = some (.ow es) → σ[i]? = some (some (.ref a)) → σ[j]? = some (some (.ref a)) → False
  mo : MOk M H
  up : ∀ b, B.Mc b → M b
  dn : ∀ b, M b → B.Mc b ∨ B.H0 b = none
  st : Step (fun b => B.pa = some b) B.H0 H
  bm : MOk B.Mc B.H0
  lk : ∀ b o, B.L b = some o → M b ∧ H b = some o ∧ ¬ Own σ s b
  len : s.length = σ.length

theorem nth_set {α : Type} {l : List α} {i j : Nat} {x y : α} (h : (l.set i x)[j]? = some y) : (i = j ∧ y = x) ∨ (i ≠ j ∧ l[j]? = some y) := by
  by_cases e : i = j
  · subst e
    refine .inl ⟨rfl, ?_⟩
    by_cases hi : i < l.length
    · rw [List.getElem?_set_self hi] at h
      exact (Option.some.inj h).symm
    · rw [List.getElem?_eq_none (by simpa using hi)] at h
      cases h
  · rw [List.getElem?_set_ne e] at h
    exact .inr ⟨e, h⟩
/-- what is owned behind a store at i was so, or is what is stored -/
theorem Own.of_set {σ : L2.St} {s : List Sl} {i : Nat} {x : Option V} {y : Sl} {b : Addr} (h : Own (σ.set i x) (s.set i y) b) : Own σ s b ∨ ((∃ ds, y = .ow ds ∨ y = .io ds) ∧ x = some (.ref b)) := by
  obtain ⟨j, ds, h1, h2⟩ := h
  rcases nth_set h2 with ⟨rfl, e⟩ | ⟨n, h2⟩
  · rcases h1 with h1 | h1
    · rcases nth_set h1 with ⟨_, e1⟩ | ⟨n, _⟩
      · exact .inr ⟨⟨ds, .inl e1.symm⟩, e.symm⟩
      · exact absurd rfl n
    · rcases nth_set h1 with ⟨_, e1⟩ | ⟨n, _⟩
      · exact .inr ⟨⟨ds, .inr e1.symm⟩, e.symm⟩
      · exact absurd rfl n
  · rw [List.getElem?_set_ne n] at h1
    exact .inl ⟨j, ds, h1, h2⟩
theorem Own.of_set2 {σ : L2.St} {s : List Sl} {i : Nat} {y : Sl} {b : Addr} (h : Own σ (s.set i y) b) : Own σ s b ∨ ((∃ ds, y = .ow ds ∨ y = .io ds) ∧ σ[i]? = some (some (.ref b))) := by
  obtain ⟨j, ds, h1, h2⟩ := h
  by_cases e : i = j
  · subst e
    rcases h1 with h1 | h1
    · rcases nth_set h1 with ⟨_, e1⟩ | ⟨n, _⟩
      · exact .inr ⟨⟨ds, .inl e1.symm⟩, h2⟩
      · exact absurd rfl n
    · rcases nth_set h1 with ⟨_, e1⟩ | ⟨n, _⟩
      · exact .inr ⟨⟨ds, .inr e1.symm⟩, h2⟩
      · exact absurd rfl n
  · rw [List.getElem?_set_ne e] at h1
    exact .inl ⟨j, ds, h1, h2⟩

section
variable {B : Bs} {M M' : MS} {σ : L2.St} {H H' : Hp} {s : List Sl}
/-- the heap grows -/
theorem SR.grow (r : SR B M σ H s) (g : Same H H') : SR B M σ H' s where
  va := fun i d h => let ⟨v, e, q⟩ := r.va i d h; ⟨v, e, q.move r.mo (.same g)⟩
  ow := fun i ds h => let ⟨a, xs, e, q, m, n, l⟩ := r.ow i ds h; ⟨a, xs, e, g _ _ q, m, n, l.move r.mo (.same g)⟩
  io := fun i ds h => let ⟨z, a, xs, p, e, q, m, l⟩ := r.io i ds h; ⟨z, a, xs, p, e, g _ _ q, m, l.move r.mo (.same g)⟩
  pa := r.pa
  ne := r.ne
  mo := r.mo.same g
  up := r.up
  dn := r.dn
  st := r.st.trans (.same g) .rfl
  bm := r.bm
  lk := fun b o e => let ⟨h1, h2, h3⟩ := r.lk b o e; ⟨h1, g _ _ h2, h3⟩
  len := r.len
/-- a name is stored -/
theorem SR.put {i : Nat} {v : V} {d : D} (r : SR B M σ H s) (h : Rp B.K M H v d) (hi : ∀ ds : List D, s[i]? ≠ some (.io ds)) (hl : i < s.length) : SR B M (σ.set i (some v)) H (s.set i (.va d)) where
  va := fun j e h1 => by
    rcases nth_set h1 with ⟨rfl, e1⟩ | ⟨n, h2⟩
    · cases e1
      exact ⟨v, by rw [List.getElem?_set_self (r.len ▸ hl)], h⟩
    · rw [List.getElem?_set_ne n]
      exact r.va j e h2
  ow := fun j e h1 => by
    rcases nth_set h1 with ⟨rfl, e1⟩ | ⟨n, h2⟩
    · cases e1
    · rw [List.getElem?_set_ne n]
      exact r.ow j e h2
  io := fun j e h1 => by
    rcases nth_set h1 with ⟨rfl, e1⟩ | ⟨n, h2⟩
    · cases e1
    · have q := r.io j e h2
      rw [List.getElem?_set_ne (q.1 ▸ n)]
      exact q
  pa := fun a ha => by
    obtain ⟨h1, ds, h2⟩ := r.pa a ha
    refine ⟨h1, ds, ?_⟩
    have ei : i ≠ 0 := fun z => hi ds (by rw [z]; exact h2)
    rw [List.getElem?_set_ne ei]
    exact h2
  ne := fun j k ds es a n h1 h2 h3 h4 => by
    rcases nth_set h1 with ⟨rfl, e1⟩ | ⟨n1, h1⟩
    · cases e1
    · rcases nth_set h2 with ⟨rfl, e1⟩ | ⟨n2, h2⟩
      · cases e1
      · rw [List.getElem?_set_ne n1] at h3
        rw [List.getElem?_set_ne n2] at h4
        exact r.ne j k ds es a n h1 h2 h3 h4
  mo := r.mo
  up := r.up
  dn := r.dn
  st := r.st
  bm := r.bm
  lk := fun b o e => by
    obtain ⟨h1, h2, h3⟩ := r.lk b o e
    refine ⟨h1, h2, fun z => ?_⟩
    rcases z.of_set with z | ⟨⟨ds, z | z⟩, _⟩
    · exact h3 z
    · cases z
    · cases z
  len := by rw [List.length_set, List.length_set]; exact r.len
/-- a name holds a list of its own -/
theorem SR.putOw {i : Nat} {p : Addr} {xs : List V} {ds : List D} (r : SR B M σ H s) (hp : H p = some (.lst xs)) (hm : M p) (h0 : B.H0 p = none) (hx : RpL B.K M H xs ds) (hn : ∀ (j : Nat) (es : List D), s[j]? = some (.ow es) → σ[j]? ≠ some (some (.ref p)))
    (hL : B.L p = none) (hi : ∀ ds : List D, s[i]? ≠ some (.io ds)) (hl : i < s.length) : SR B M (σ.set i (some (.ref p))) H (s.set i (.ow ds)) where
  va := fun j e h1 => by
    rcases nth_set h1 with ⟨rfl, e1⟩ | ⟨n, h2⟩
    · cases e1
    · rw [List.getElem?_set_ne n]
      exact r.va j e h2
  ow := fun j e h1 => by
    rcases nth_set h1 with ⟨rfl, e1⟩ | ⟨n, h2⟩
    · cases e1
      exact ⟨p, xs, by rw [List.getElem?_set_self (r.len ▸ hl)], hp, hm, h0, hx⟩
    · rw [List.getElem?_set_ne n]
      exact r.ow j e h2
  io := fun j e h1 => by
    rcases nth_set h1 with ⟨rfl, e1⟩ | ⟨n, h2⟩
    · cases e1
    · have q := r.io j e h2
      rw [List.getElem?_set_ne (q.1 ▸ n)]
      exact q
  pa := fun a ha => by
    obtain ⟨h1, ds, h2⟩ := r.pa a ha
    refine ⟨h1, ds, ?_⟩
    have ei : i ≠ 0 := fun z => hi ds (by rw [z]; exact h2)
    rw [List.getElem?_set_ne ei]
    exact h2
  ne := fun j k es fs a n h1 h2 h3 h4 => by
    rcases nth_set h1 with ⟨rfl, e1⟩ | ⟨n1, h1⟩
    · rcases nth_set h2 with ⟨rfl, e1⟩ | ⟨n2, h2⟩
      · exact n rfl
      · rw [List.getElem?_set_self (r.len ▸ hl)] at h3
        rw [List.getElem?_set_ne n2] at h4
        cases h3
        exact hn k _ h2 h4
    · rcases nth_set h2 with ⟨rfl, e1⟩ | ⟨n2, h2⟩
      · rw [List.getElem?_set_self (r.len ▸ hl)] at h4
        rw [List.getElem?_set_ne n1] at h3
        cases h4
        exact hn j _ h1 h3
      · rw [List.getElem?_set_ne n1] at h3
        rw [List.getElem?_set_ne n2] at h4
        exact r.ne j k es fs a n h1 h2 h3 h4
  mo := r.mo
  up := r.up
  dn := r.dn
  st := r.st
  bm := r.bm
  lk := fun b o e => by
    obtain ⟨h1, h2, h3⟩ := r.lk b o e
    refine ⟨h1, h2, fun z => ?_⟩
    rcases z.of_set with z | ⟨_, z⟩
    · exact h3 z
    · cases z
      rw [hL] at e
      cases e
  len := by rw [List.length_set, List.length_set]; exact r.len
/-- a new list, owned -/
theorem SR.laid {p : Addr} {xs : List V} (r : SR B M σ H s) (e : H p = none) : SR B (With M p) σ (upd H p (.lst xs)) s := by
  have g : Same H (upd H p (.lst xs)) := fun b o h => by rw [upd_ne (ne_of_none h e)]; exact h
  have mW : MOk (With M p) (upd H p (.lst xs)) := fun b z => by
    by_cases hb : b = p
    · subst hb; rw [upd_same]; exact trivial
    · rw [upd_ne hb]
      exact z.elim (r.mo b) fun q => absurd q hb
  have mv : ∀ {v : V} {d : D}, Rp B.K M H v d → Rp B.K (With M p) (upd H p (.lst xs)) v d := fun {v d} q => Rp.grow1 e q
  have mvL : ∀ {v : List V} {d : List D}, RpL B.K M H v d → RpL B.K (With M p) (upd H p (.lst xs)) v d := fun {v d} q => RpL.grow1 e q
  exact {
    va := fun i d h => let ⟨v, e, q⟩ := r.va i d h; ⟨v, e, mv q⟩
    ow := fun i ds h => let ⟨a, xs, e, q, m, n, l⟩ := r.ow i ds h; ⟨a, xs, e, g _ _ q, .inl m, n, mvL l⟩
    io := fun i ds h => let ⟨z, a, xs, p, e, q, m, l⟩ := r.io i ds h; ⟨z, a, xs, p, e, g _ _ q, .inl m, mvL l⟩
    pa := r.pa
    ne := r.ne
    mo := mW
    up := fun b z => .inl (r.up b z)
    dn := fun b z => z.elim (r.dn b) fun q => .inr (by
      subst q
      cases h : B.H0 b with
      | none => rfl
      | some o =>
        by_cases hp : B.pa = some b
        · obtain ⟨h1, ds, h2⟩ := r.pa b hp
          obtain ⟨_, a, xs', h3, _, h5, _⟩ := r.io 0 ds h2
          rw [hp] at h3; cases h3
          rw [e] at h5; cases h5
        · have := r.st b o h hp
          rw [e] at this; cases this)
    st := r.st.trans (.same g) .rfl
    bm := r.bm
    lk := fun b o e => let ⟨h1, h2, h3⟩ := r.lk b o e; ⟨.inl h1, g _ _ h2, h3⟩
    len := r.len }
/-- the list of one's own at slot k (or the one handed in) has changed -/
theorem SR.mutated {k : Nat} {a : Addr} {xs : List V} {ds es : List D} {io : Bool} (r : SR B M σ H s) (hk : s[k]? = some (if io then .io ds else .ow ds)) (hs : σ[k]? = some (some (.ref a))) (ha : H' a = some (.lst xs)) (hx : RpL B.K M H' xs es) (st : Step (fun b => b = a) H H') :
    SR B M σ H' (s.set k (if io then .io es else .ow es)) ∧ Ev M H M H' := by
  have hm : M a ∧ (io = false → B.H0 a = none) ∧ (io = true → B.pa = some a ∧ k = 0) := by
    cases io with
    | true =>
      obtain ⟨z, a', xs', h1, h2, h3, h4, h5⟩ := r.io k ds hk
      subst z
      rw [h2] at hs; cases hs
      exact ⟨h4, (fun z => by cases z), fun _ => ⟨h1, rfl⟩⟩
    | false =>
      obtain ⟨a', xs', h1, h2, h3, h4, h5⟩ := r.ow k ds hk
      rw [h1] at hs; cases hs
      exact ⟨h3, fun _ => h4, (fun z => by cases z)⟩
  obtain ⟨hM, hO, hI⟩ := hm
  have ev : Ev M H M H' := ⟨fun _ z => .inl z, fun b o e n => st b o e fun z => n (z ▸ hM)⟩
  have hl : k < s.length := (List.getElem?_eq_some_iff.mp hk).1
  refine ⟨?_, ev⟩
  exact {
    va := fun j d h1 => by
      rcases nth_set h1 with ⟨rfl, e1⟩ | ⟨n, h2⟩
      · cases io <;> cases e1
      · obtain ⟨v, e, q⟩ := r.va j d h2
        exact ⟨v, e, q.move r.mo ev⟩
    ow := fun j d h1 => by
      rcases nth_set h1 with ⟨rfl, e1⟩ | ⟨n, h2⟩
      · cases io with
        | true => cases e1
        | false =>
          cases e1
          exact ⟨a, xs, hs, ha, hM, hO rfl, hx⟩
      · obtain ⟨a2, xs2, e, q, m2, n2, l2⟩ := r.ow j d h2
        have ne : a2 ≠ a := fun z => by
          subst z
          cases io with
          | true =>
            have q0 := r.bm.there n2
            exact q0 (r.pa _ (hI rfl).1).1
          | false => exact r.ne k j ds d a2 n hk h2 hs e
        exact ⟨a2, xs2, e, st _ _ q ne, m2, n2, l2.move r.mo ev⟩
    io := fun j d h1 => by
      rcases nth_set h1 with ⟨rfl, e1⟩ | ⟨n, h2⟩
      · cases io with
        | false => cases e1
        | true =>
          cases e1
          obtain ⟨p1, p2⟩ := hI rfl
          subst p2
          exact ⟨rfl, a, xs, p1, hs, ha, hM, hx⟩
      · obtain ⟨z, a2, xs2, p2, e, q, m2, l2⟩ := r.io j d h2
        have ne : a2 ≠ a := fun y => by
          subst y
          cases io with
          | true => exact n ((hI rfl).2.trans z.symm)
          | false => exact r.bm.there (hO rfl) (r.pa _ p2).1
        exact ⟨z, a2, xs2, p2, e, st _ _ q ne, m2, l2.move r.mo ev⟩
    pa := fun b hb => by
      obtain ⟨h1, fs, h2⟩ := r.pa b hb
      refine ⟨h1, ?_⟩
      by_cases hk0 : k = 0
      · subst hk0
        rw [h2] at hk
        cases io with
        | false => cases hk
        | true => exact ⟨es, by rw [List.getElem?_set_self hl]; rfl⟩
      · exact ⟨fs, by rw [List.getElem?_set_ne hk0]; exact h2⟩
    ne := fun i j d1 d2 b n h1 h2 h3 h4 => by
      have old : ∀ (i : Nat) (d : List D), (s.set k (if io = true then Sl.io es else Sl.ow es))[i]? = some (.ow d) → ∃ d', s[i]? = some (.ow d') := fun i d h => by
        rcases nth_set h with ⟨rfl, e1⟩ | ⟨n, h2⟩
        · cases io with
          | true => cases e1
          | false => exact ⟨ds, hk⟩
        · exact ⟨d, h2⟩
      obtain ⟨d1', h1'⟩ := old i d1 h1
      obtain ⟨d2', h2'⟩ := old j d2 h2
      exact r.ne i j d1' d2' b n h1' h2' h3 h4
    mo := fun b z => by
      by_cases hb : b = a
      · subst hb; rw [ha]; exact trivial
      · have q := r.mo b z
        cases e : H b with
        | none => rw [e] at q; exact q.elim
        | some o => rw [st b o e hb, ← e]; exact q
    up := r.up
    dn := r.dn
    st := fun b o h n => st b o (r.st b o h n) fun z => by
      subst z
      cases io with
      | true => exact n (hI rfl).1
      | false => rw [hO rfl] at h; cases h
    bm := r.bm
    lk := fun b o e => by
      obtain ⟨h1, h2, h3⟩ := r.lk b o e
      have hO : Own σ s a := ⟨k, ds, by cases io with
        | true => exact .inr hk
        | false => exact .inl hk, hs⟩
      have nb : b ≠ a := fun z => h3 (z ▸ hO)
      refine ⟨h1, st _ _ h2 nb, fun z => ?_⟩
      rcases z.of_set2 with z | ⟨_, z⟩
      · exact h3 z
      · rw [hs] at z
        cases z
        exact nb rfl
    len := by rw [List.length_set]; exact r.len }
end
end Fx

set_option Elab.async false
set_option linter.all false
set_option maxRecDepth 100000
namespace Fx
open PySem L2

/-- an exception: its class, its fields -/
structure XD where
  C : Addr
  fs : List (Str × D)
def XR (K : PySem.W.Frag) (M : MS) (H : Hp) (cls : Value) (od : Option Addr) (x : XD) : Prop :=
  cls = .ref x.C ∧ ((od = none ∧ x.fs = []) ∨ ∃ (d : Addr) (vs : List (Str × V)), od = some d ∧ H d = some (.xd vs) ∧ vs.map (·.1) = x.fs.map (·.1) ∧ RpL K M H (vs.map (·.2)) (x.fs.map (·.2)))
/-- what a piece comes to -/
inductive R (α : Type) where
  | ok (a : α) (s : List Sl) | er (x : XD) (s : List Sl) | no
def R.bind {α β : Type} (r : R α) (f : α → List Sl → R β) : R β :=
  match r with
  | .ok a s => f a s
  | .er x s => .er x s
  | .no => .no
@[simp] theorem R.bind_ok {α β : Type} {a : α} {s : List Sl} {f : α → List Sl → R β} : (R.ok a s).bind f = f a s := rfl
@[simp] theorem R.bind_er {α β : Type} {x : XD} {s : List Sl} {f : α → List Sl → R β} : (R.er x s).bind f = .er x s := rfl
@[simp] theorem R.bind_no {α β : Type} {f : α → List Sl → R β} : (R.no).bind f = .no := rfl
abbrev F (α : Type) := List Sl → R α
abbrev RelT (β α : Type) := MS → Hp → β → α → Prop

variable {α β γ δ : Type}
def Post (B : Bs) (W : WX) (rho : RelT β α) (M : MS) (H : Hp) (σ : L2.St) (r : R α) (Q : β → Hp → Prop) : Prop :=
  match r with
  | .ok d s' => ∀ v H' M', SR B M' σ H' s' → rho M' H' v d → Ev M H M' H' → Q v H'
  | .er x s' => ∀ cls od H' M', SR B M' σ H' s' → XR B.K M' H' cls od x → W cls od σ H'
  | .no => False
def tP (B : Bs) (W : WX) (rho : RelT β α) (f : F α) : L2.St → Hp → (β → Hp → Prop) → Prop := fun σ H Q => ∃ M s, SR B M σ H s ∧ Post B W rho M H σ (f s) Q
section
variable {B : Bs} {W : WX} {rho : RelT β α} {rho' : RelT δ γ} {M M' : MS} {σ : L2.St} {H H' : Hp} {s : List Sl}
theorem Post.later {r : R α} {Q : β → Hp → Prop} (h : Post B W rho M H σ r Q) (ev : Ev M H M' H') : Post B W rho M' H' σ r Q := by
  cases r with
  | ok d s' => exact fun v H2 M2 a b c => h v H2 M2 a b (ev.trans c)
  | er x s' => exact h
  | no => exact h
theorem Post.bind {r : R α} {g : α → F γ} {Q : δ → Hp → Prop} {Q1 : β → Hp → Prop} (h : Post B W rho' M H σ (r.bind g) Q)
    (k : ∀ d s1 M1 H1 x, SR B M1 σ H1 s1 → rho M1 H1 x d → Ev M H M1 H1 → Post B W rho' M1 H1 σ (g d s1) Q → Q1 x H1) : Post B W rho M H σ r Q1 := by
  cases r with
  | ok d s' => exact fun v H2 M2 a b c => k d s' M2 H2 v a b c (Post.later h c)
  | er x s' => exact h
  | no => exact h
theorem Post.out {d : α} {Q : β → Hp → Prop} {v : β} (h : Post B W rho M H σ (.ok d s) Q) (r : SR B M σ H s) (q : rho M H v d) : Q v H := h v H M r q .rfl
theorem Post.grow {d : α} {Q : β → Hp → Prop} {v : β} (h : Post B W rho M H σ (.ok d s) Q) (r : SR B M σ H s) (g : Same H H') (q : rho M H' v d) : Q v H' := h v H' M (r.grow g) q (.same g)
end

/-! ### judgements -/
abbrev rhoD (B : Bs) : RelT V D := fun M H v d => Rp B.K M H v d
abbrev rhoL (B : Bs) : RelT (List V) (List D) := fun M H v d => RpL B.K M H v d
abbrev rhoB : RelT Bool Bool := fun _ _ b c => b = c
abbrev rhoI : RelT (Option Int) (Option Int) := fun _ _ b c => b = c
def SE (X : Cx) (B : Bs) (W : WX) (e : Expr) (f : F D) : Prop := PE X e (tP B W (rhoD B) f)
def SA (X : Cx) (B : Bs) (W : WX) (es : List Expr) (f : F (List D)) : Prop := PA X es (tP B W (rhoL B) f)
def ST (X : Cx) (B : Bs) (W : WX) (e : Expr) (f : F Bool) : Prop := PT X e (tP B W rhoB f)
def SO (X : Cx) (B : Bs) (W : WX) (e : Option Expr) (f : F (Option Int)) : Prop := PO X e (tP B W rhoI f)

theorem PE.imp {X : Cx} {e : Expr} {t u : TE} (h : PE X e t) (k : ∀ σ H Q, u σ H Q → t σ H Q) : PE X e u := ⟨fun pins s σ H Q I q => h.run pins s σ H Q I (k σ H Q q)⟩
theorem PT.imp {X : Cx} {e : Expr} {t u : TT} (h : PT X e t) (k : ∀ σ H Q, u σ H Q → t σ H Q) : PT X e u := ⟨fun pins s σ H Q I q => h.run pins s σ H Q I (k σ H Q q)⟩
theorem PA.imp {X : Cx} {es : List Expr} {t u : TA} (h : PA X es t) (k : ∀ σ H Q, u σ H Q → t σ H Q) : PA X es u := ⟨fun pos pins s σ H Q I q => h.run pos pins s σ H Q I (k σ H Q q)⟩
theorem PS.imp {X : Cx} {st : Stmt} {t u : TS} (h : PS X st t) (k : ∀ D σ H, u D σ H → t D σ H) : PS X st u := ⟨fun pins s σ H D I q => h.run pins s σ H D I (k D σ H q)⟩
theorem PSs.imp {X : Cx} {st : List Stmt} {t u : TS} (h : PSs X st t) (k : ∀ D σ H, u D σ H → t D σ H) : PSs X st u := ⟨fun pins s σ H D I q => h.run pins s σ H D I (k D σ H q)⟩
theorem PG.imp {X : Cx} {tg : Expr} {t u : TG} (h : PG X tg t) (k : ∀ v σ H Q, u v σ H Q → t v σ H Q) : PG X tg u := ⟨fun pins s σ H v w Q I r q => h.run pins s σ H v w Q I r (k v σ H Q q)⟩

section
variable {X : Cx} {B : Bs} {W : WX} {a b c : Expr} {f g h : F D} {pos : Pos}

/-! ### names, constants -/
def nameF (i : Nat) : F D := fun s => match s[i]? with
  | some (.va d) => .ok d s
  | some (.ow ds) => .ok (.lst ds) (s.set i (.va (.lst ds)))
  | _ => .no
/-- an own list becomes a value -/
theorem SR.freeze {M : MS} {σ : L2.St} {H : Hp} {s : List Sl} {i : Nat} {ds : List D} (r : SR B M σ H s) (h : s[i]? = some (.ow ds)) : ∃ (a : Addr) (xs : List V), σ[i]? = some (some (.ref a)) ∧ H a = some (.lst xs) ∧ RpL B.K (Wout M a) H xs ds ∧ SR B (Wout M a) σ H (s.set i (.va (.lst ds))) := by
  obtain ⟨a, xs, e, q, m, n, l⟩ := r.ow i ds h
  have sb : Sub (Wout M a) M := fun b z => z.1
  have hl : i < s.length := (List.getElem?_eq_some_iff.mp h).1
  have mv : ∀ {v : V} {d : D}, Rp B.K M H v d → Rp B.K (Wout M a) H v d := fun q => q.move r.mo (.sub sb)
  have mvL : ∀ {v : List V} {d : List D}, RpL B.K M H v d → RpL B.K (Wout M a) H v d := fun q => q.move r.mo (.sub sb)
  have nmc : ¬ B.Mc a := fun z => r.bm.there n z
  refine ⟨a, xs, e, q, mvL l, ?_⟩
  exact {
    va := fun j d h1 => by
      rcases nth_set h1 with ⟨rfl, e1⟩ | ⟨n1, h2⟩
      · cases e1
        exact ⟨_, e, .lst q (fun z => z.2 rfl) (mvL l)⟩
      · obtain ⟨v, e2, q2⟩ := r.va j d h2
        exact ⟨v, e2, mv q2⟩
    ow := fun j es h1 => by
      rcases nth_set h1 with ⟨rfl, e1⟩ | ⟨n1, h2⟩
      · cases e1
      · obtain ⟨a2, xs2, e2, q2, m2, n2, l2⟩ := r.ow j es h2
        exact ⟨a2, xs2, e2, q2, ⟨m2, fun z => r.ne i j ds es a n1 h h2 e (z ▸ e2)⟩, n2, mvL l2⟩
    io := fun j es h1 => by
      rcases nth_set h1 with ⟨rfl, e1⟩ | ⟨n1, h2⟩
      · cases e1
      · obtain ⟨z, a2, xs2, p2, e2, q2, m2, l2⟩ := r.io j es h2
        refine ⟨z, a2, xs2, p2, e2, q2, ⟨m2, fun z => nmc (z ▸ (r.pa a2 p2).1)⟩, mvL l2⟩
    pa := fun b hb => by
      obtain ⟨h1, es, h2⟩ := r.pa b hb
      refine ⟨h1, es, ?_⟩
      have ei : i ≠ 0 := fun z => by rw [z, h2] at h; cases h
      rw [List.getElem?_set_ne ei]
      exact h2
    ne := fun j k es fs b n1 h1 h2 h3 h4 => by
      rcases nth_set h1 with ⟨rfl, e1⟩ | ⟨_, h1⟩
      · cases e1
      · rcases nth_set h2 with ⟨rfl, e1⟩ | ⟨_, h2⟩
        · cases e1
        · exact r.ne j k es fs b n1 h1 h2 h3 h4
    mo := fun b z => r.mo b z.1
    up := fun b z => ⟨r.up b z, fun y => nmc (y ▸ z)⟩
    dn := fun b z => r.dn b z.1
    st := r.st
    bm := r.bm
    lk := fun b o e2 => by
      obtain ⟨h1, h2, h3⟩ := r.lk b o e2
      have nb : b ≠ a := fun z => h3 (z ▸ ⟨i, ds, .inl h, e⟩)
      refine ⟨⟨h1, nb⟩, h2, fun z => ?_⟩
      rcases z.of_set2 with z | ⟨⟨ds, z | z⟩, _⟩
      · exact h3 z
      · cases z
      · cases z
    len := by rw [List.length_set]; exact r.len }
theorem se_name (i : Nat) {x : Str} (hN : X.N[i]? = some x := by rfl) (hv : Vis X.env.scope x := by first | exact Or.inl rfl | exact Or.inr (Or.inl rfl) | exact Or.inr (Or.inr rfl)) (hd : (x == ("__debug__" : Str)) = false := by decide)
    (hcd : (x == ("__classdict__" : Str)) = false := by decide) : SE X B W (.Name x pos) (nameF i) := by
  refine PE.imp (pe_var hN hv hd hcd) fun σ H Q ⟨M, s, r, p⟩ => ?_
  unfold nameF at p
  split at p
  · rename_i d e
    obtain ⟨v, e1, q⟩ := r.va i d e
    exact ⟨v, e1, p.out r q⟩
  · rename_i ds e
    obtain ⟨a, xs, e1, q, l, r'⟩ := r.freeze e
    exact ⟨_, e1, p _ H _ r' (.lst q (fun z => z.2 rfl) l) (.sub fun b z => z.1)⟩
  · exact p.elim
def cF (d : D) : F D := fun s => .ok d s
theorem se_int {i : Int} {j} : SE X B W (.Constant (.int i) j pos) (cF (.int i)) := PE.imp pe_int fun σ H Q ⟨M, s, r, p⟩ => p.out r (.int i)
theorem se_bl {i : Bool} {j} : SE X B W (.Constant (.bool i) j pos) (cF (.bl i)) := PE.imp pe_bl fun σ H Q ⟨M, s, r, p⟩ => p.out r (.bl i)
theorem se_non {j} : SE X B W (.Constant .none j pos) (cF .non) := PE.imp pe_non fun σ H Q ⟨M, s, r, p⟩ => p.out r .non
theorem se_str {x : Str} {j} : SE X B W (.Constant (.str x) j pos) (cF (.str x)) := PE.imp pe_str fun σ H Q ⟨M, s, r, p⟩ => p.out r (.str x)
/-- a module's constant -/
structure Glb (X : Cx) (B : Bs) (x : Str) (d : D) : Prop where
  ex : ∃ (v : V) (u : Value), X.mg x = some u ∧ RelV v u ∧ ∀ M H, Rp B.K M H v d
theorem se_glob {x : Str} {d : D} (hg : Gl X x) (h : Glb X B x d) (hd : (x == ("__debug__" : Str)) = false := by decide) : SE X B W (.Name x pos) (cF d) := by
  obtain ⟨v, u, hm, rv, q⟩ := h.ex
  exact PE.imp (pe_glob hg hm rv hd) fun σ H Q ⟨M, s, r, p⟩ => p.out r (q M H)
theorem se_bltn {x : Str} {n : String} (hg : Gl X x) (hm : X.mg x = none) (hv : bootBuiltins x = some (.type n)) (hn : x ≠ "__name__" := by decide) (hd : (x == ("__debug__" : Str)) = false := by decide) : SE X B W (.Name x pos) (cF (.ty n)) :=
  PE.imp (pe_bltn (v := .ty n) hg hm hv rfl hn hd) fun σ H Q ⟨M, s, r, p⟩ => p.out r (.ty n)

/-! ### operators -/
/-- what an operator asks, and what it gives -/
def Op2 (K : PySem.W.Frag) (r : R2) (o : D → D → Option D) : Prop := ∀ (x y d : D), o x y = some d → ∀ (M : MS) (H : Hp) (v u : V) (Q : VK), MOk M H → Rp K M H v x → Rp K M H u y → (∀ w H', Same H H' → Rp K M H' w d → Q w H') → r v u H Q
def Op1 (K : PySem.W.Frag) (r : V → Hp → VK → Prop) (o : D → Option D) : Prop := ∀ (x d : D), o x = some d → ∀ (M : MS) (H : Hp) (v : V) (Q : VK), MOk M H → Rp K M H v x → (∀ w H', Same H H' → Rp K M H' w d → Q w H') → r v H Q
def OpN (K : PySem.W.Frag) (r : List V → Hp → VK → Prop) (o : List D → Option D) : Prop := ∀ (xs : List D) (d : D), o xs = some d → ∀ (M : MS) (H : Hp) (vs : List V) (Q : VK), MOk M H → RpL K M H vs xs → (∀ w H', Same H H' → Rp K M H' w d → Q w H') → r vs H Q
def toR (o : Option D) (s : List Sl) : R D := match o with
  | some d => .ok d s
  | none => .no
def op2F (o : D → D → Option D) (f g : F D) : F D := fun s => (f s).bind fun x s1 => (g s1).bind fun y s2 => toR (o x y) s2
def op1F (o : D → Option D) (f : F D) : F D := fun s => (f s).bind fun x s1 => toR (o x) s1
theorem two_run {r : R2} {o : D → D → Option D} (hr : Op2 B.K r o) {σ : L2.St} {H : Hp} {Q : VK} (p : tP B W (rhoD B) (op2F o f g) σ H Q) : tOp r (tP B W (rhoD B) f) (tP B W (rhoD B) g) σ H Q := by
  obtain ⟨M, s, r, p⟩ := p
  refine ⟨M, s, r, Post.bind p fun x s1 M1 H1 v r1 q1 ev1 p1 => ⟨M1, s1, r1, Post.bind p1 fun y s2 M2 H2 u r2 q2 ev2 p2 => ?_⟩⟩
  unfold toR at p2
  split at p2
  · rename_i d e
    exact hr x y d e M2 H2 v u Q r2.mo (q1.move r1.mo ev2) q2 fun w H' sm q => p2.grow r2 sm q
  · exact p2.elim
theorem one_run {r : V → Hp → VK → Prop} {o : D → Option D} (hr : Op1 B.K r o) {σ : L2.St} {H : Hp} {Q : VK} (p : tP B W (rhoD B) (op1F o f) σ H Q) : tUn r (tP B W (rhoD B) f) σ H Q := by
  obtain ⟨M, s, r, p⟩ := p
  refine ⟨M, s, r, Post.bind p fun x s1 M1 H1 v r1 q1 ev1 p1 => ?_⟩
  unfold toR at p1
  split at p1
  · rename_i d e
    exact hr x d e M1 H1 v Q r1.mo q1 fun w H' sm q => p1.grow r1 sm q
  · exact p1.elim
theorem se_bin {op : Operator} {r : R2} {o : D → D → Option D} (ho : OpR X (binaryOp op) r) (hr : Op2 B.K r o) (ha : SE X B W a f) (hb : SE X B W b g) : SE X B W (.BinOp a op b pos) (op2F o f g) :=
  PE.imp (pe_op ho ha hb) fun σ H Q p => two_run hr p
theorem se_un {op : UnaryOp} {r : V → Hp → VK → Prop} {o : D → Option D} (ho : UnR X (unaryOp op) r) (hr : Op1 B.K r o) (ha : SE X B W a f) : SE X B W (.UnaryOp op a pos) (op1F o f) :=
  PE.imp (pe_un ho ha) fun σ H Q p => one_run hr p
theorem se_cmp {op : CmpOp} {r : R2} {o : D → D → Option D} (ho : OpR X (compareOp op) r) (hr : Op2 B.K r o) (ha : SE X B W a f) (hb : SE X B W b g) (hm : behindInMarks op b = false := by rfl) : SE X B W (.Compare a [op] [b] pos) (op2F o f g) :=
  PE.imp (pe_cmpR ho ha hb hm) fun σ H Q p => two_run hr p

/-! ### arguments, displays, calls of built-ins -/
def nilF : F (List D) := fun s => .ok [] s
def consF (f : F D) (g : F (List D)) : F (List D) := fun s => (f s).bind fun x s1 => (g s1).bind fun xs s2 => .ok (x :: xs) s2
variable {e : Expr} {es : List Expr} {k : F (List D)}
theorem sa_nil : SA X B W [] nilF := PA.imp pa_nil fun σ H Q ⟨M, s, r, p⟩ => p.out r .nil
theorem sa_cons (ha : SE X B W e f) (hr : SA X B W es k) (hs : starEach (e :: es) X.env = (false, eval e X.env) :: starEach es X.env := by rfl) : SA X B W (e :: es) (consF f k) := by
  refine PA.imp (pa_cons ha hr hs) fun σ H Q ⟨M, s, r, p⟩ => ?_
  exact ⟨M, s, r, Post.bind p fun x s1 M1 H1 v r1 q1 ev1 p1 => ⟨M1, s1, r1, Post.bind p1 fun xs s2 M2 H2 vs r2 q2 ev2 p2 => p2.out r2 (.cons (q1.move r1.mo ev2) q2)⟩⟩
def opnF (o : List D → Option D) (k : F (List D)) : F D := fun s => (k s).bind fun xs s1 => toR (o xs) s1
theorem n_run {r : List V → Hp → VK → Prop} {o : List D → Option D} (hr : OpN B.K r o) {σ : L2.St} {H : Hp} {Q : VK} (p : tP B W (rhoD B) (opnF o k) σ H Q) : tCB r (tP B W (rhoL B) k) σ H Q := by
  obtain ⟨M, s, r, p⟩ := p
  refine ⟨M, s, r, Post.bind p fun xs s1 M1 H1 vs r1 q1 ev1 p1 => ?_⟩
  unfold toR at p1
  split at p1
  · rename_i d e
    exact hr xs d e M1 H1 vs Q r1.mo q1 fun w H' sm q => p1.grow r1 sm q
  · exact p1.elim
theorem se_callB {x : Str} {id : String} {p pos : Pos} {r : List V → Hp → VK → Prop} {o : List D → Option D} (hc : CallR X (.builtin id) r) (hr : OpN B.K r o) (hg : Gl X x) (hm : X.mg x = none) (hv : bootBuiltins x = some (.builtin id)) (ha : SA X B W (e :: es) k) (hn : x ≠ "__name__" := by decide) (hdb : (x == ("__debug__" : Str)) = false := by decide)
    (he : starEach (e :: es) X.env = (false, eval e X.env) :: starEach es X.env := by rfl) (hpl : (backTo pos (starEach es X.env)).any (·.1) = false := by rfl) : SE X B W (.Call (.Name x p) (e :: es) [] pos) (opnF o k) :=
  PE.imp (pe_callB hc hg hm hv ha hn hdb he hpl) fun σ H Q p => n_run hr p
theorem se_callTy {x : Str} {T : String} {p pos : Pos} {r : List V → Hp → VK → Prop} {o : List D → Option D} (hc : CallR X (.type T) r) (hr : OpN B.K r o) (hg : Gl X x) (hm : X.mg x = none) (hv : bootBuiltins x = some (.type T)) (ha : SA X B W (e :: es) k) (hn : x ≠ "__name__" := by decide) (hdb : (x == ("__debug__" : Str)) = false := by decide)
    (he : starEach (e :: es) X.env = (false, eval e X.env) :: starEach es X.env := by rfl) (hpl : (backTo pos (starEach es X.env)).any (·.1) = false := by rfl) : SE X B W (.Call (.Name x p) (e :: es) [] pos) (opnF o k) :=
  PE.imp (pe_callTy hc hg hm hv ha hn hdb he hpl) fun σ H Q p => n_run hr p
def tupF (k : F (List D)) : F D := fun s => (k s).bind fun xs s1 => if xs.length ≤ sizeLine then .ok (.tup xs) s1 else .no
def lstF (k : F (List D)) : F D := fun s => (k s).bind fun xs s1 => if xs.length ≤ sizeLine then .ok (.lst xs) s1 else .no
theorem same_upd {H : Hp} {p : Addr} {o : HO} (h : H p = none) : Same H (upd H p o) := fun b x e => by
  rw [upd_ne (ne_of_none e h)]
  exact e
theorem new_tup {K : PySem.W.Frag} {M : MS} {H : Hp} {p : Addr} {vs : List V} {xs : List D} (m : MOk M H) (h : H p = none) (q : RpL K M H vs xs) : Rp K M (upd H p (.tup vs)) (.ref p) (.tup xs) := .tup upd_same (q.move m (.same (same_upd h)))
theorem new_lst {K : PySem.W.Frag} {M : MS} {H : Hp} {p : Addr} {vs : List V} {xs : List D} (m : MOk M H) (h : H p = none) (q : RpL K M H vs xs) : Rp K M (upd H p (.lst vs)) (.ref p) (.lst xs) := .lst upd_same (m.there h) (q.move m (.same (same_upd h)))
theorem se_tup {x1} (h : SA X B W es k) : SE X B W (.Tuple es x1 pos) (tupF k) := by
  refine PE.imp (pe_tup h) fun σ H Q ⟨M, s, r, p⟩ => ⟨M, s, r, Post.bind p fun xs s1 M1 H1 vs r1 q1 ev1 p1 => ?_⟩
  split at p1
  · rename_i hz
    exact ⟨by rw [q1.length]; exact hz, fun a na => p1.grow r1 (same_upd na) (new_tup r1.mo na q1)⟩
  · exact p1.elim
theorem se_lst (h : SA X B W es k) : SE X B W (.List es pos) (lstF k) := by
  refine PE.imp (pe_lst h) fun σ H Q ⟨M, s, r, p⟩ => ⟨M, s, r, Post.bind p fun xs s1 M1 H1 vs r1 q1 ev1 p1 => ?_⟩
  split at p1
  · rename_i hz
    exact ⟨by rw [q1.length]; exact hz, fun a na => p1.grow r1 (same_upd na) (new_lst r1.mo na q1)⟩
  · exact p1.elim
/-! ### own lists -/
/-- an owned list, in no slot -/
def Owned (B : Bs) (σ : L2.St) (s : List Sl) (M : MS) (H : Hp) (p : Addr) (ds : List D) : Prop :=
  ∃ xs, H p = some (.lst xs) ∧ M p ∧ B.H0 p = none ∧ RpL B.K M H xs ds ∧ B.L p = none ∧ ∀ (j : Nat) (es : List D), s[j]? = some (.ow es) → σ[j]? ≠ some (some (.ref p))
def PostN (B : Bs) (W : WX) (M : MS) (H : Hp) (σ : L2.St) (r : R (List D)) (Q : VK) : Prop :=
  match r with
  | .ok ds s' => ∀ p H' M', SR B M' σ H' s' → Owned B σ s' M' H' p ds → Ev M H M' H' → Q (.ref p) H'
  | .er x s' => ∀ cls od H' M', SR B M' σ H' s' → XR B.K M' H' cls od x → W cls od σ H'
  | .no => False
def tN (B : Bs) (W : WX) (f : F (List D)) : TE := fun σ H Q => ∃ M s, SR B M σ H s ∧ PostN B W M H σ (f s) Q
def SN (X : Cx) (B : Bs) (W : WX) (e : Expr) (f : F (List D)) : Prop := PE X e (tN B W f)
theorem SR.noOw {M : MS} {σ : L2.St} {H : Hp} {s : List Sl} {p : Addr} (r : SR B M σ H s) (e : H p = none) : ∀ (j : Nat) (es : List D), s[j]? = some (.ow es) → σ[j]? ≠ some (some (.ref p)) := fun j es h z => by
  obtain ⟨a, xs, e1, q, _⟩ := r.ow j es h
  rw [z] at e1
  cases e1
  rw [e] at q
  cases q
/-- a list just laid is owned -/
theorem SR.newOwned {M : MS} {σ : L2.St} {H : Hp} {s : List Sl} {p : Addr} {xs : List V} {ds : List D} (r : SR B M σ H s) (e : H p = none) (q : RpL B.K M H xs ds) : SR B (With M p) σ (upd H p (.lst xs)) s ∧ Owned B σ s (With M p) (upd H p (.lst xs)) p ds := by
  have r' := r.laid (xs := xs) e
  have hL : B.L p = none := by
    cases h : B.L p with
    | none => rfl
    | some o =>
      have := (r.lk p o h).2.1
      rw [e] at this
      cases this
  refine ⟨r', xs, upd_same, .inr rfl, ?_, RpL.grow1 e q, hL, r.noOw e⟩
  rcases r'.dn p (.inr rfl) with z | z
  · exact absurd (r.up p z) (r.mo.there e)
  · exact z
theorem PostN.laid {M : MS} {σ : L2.St} {H : Hp} {s : List Sl} {p : Addr} {xs : List V} {ds : List D} {Q : VK} (h : PostN B W M H σ (.ok ds s) Q) (r : SR B M σ H s) (e : H p = none) (q : RpL B.K M H xs ds) : Q (.ref p) (upd H p (.lst xs)) :=
  let ⟨a, b⟩ := r.newOwned e q
  h p _ _ a b ⟨fun c z => z.elim .inl fun z => .inr (z ▸ e), .same (same_upd e)⟩
theorem PostN.later {M M' : MS} {σ : L2.St} {H H' : Hp} {r : R (List D)} {Q : VK} (h : PostN B W M H σ r Q) (ev : Ev M H M' H') : PostN B W M' H' σ r Q := by
  cases r with
  | ok d s' => exact fun v H2 M2 a b c => h v H2 M2 a b (ev.trans c)
  | er x s' => exact h
  | no => exact h
theorem PostN.bind {M : MS} {σ : L2.St} {H : Hp} {rho : RelT β α} {r : R α} {g : α → F (List D)} {Q : VK} {Q1 : β → Hp → Prop} (h : PostN B W M H σ (r.bind g) Q)
    (k : ∀ d s1 M1 H1 x, SR B M1 σ H1 s1 → rho M1 H1 x d → Ev M H M1 H1 → PostN B W M1 H1 σ (g d s1) Q → Q1 x H1) : Post B W rho M H σ r Q1 := by
  cases r with
  | ok d s' => exact fun v H2 M2 a b c => k d s' M2 H2 v a b c (PostN.later h c)
  | er x s' => exact h
  | no => exact h
def lstN (k : F (List D)) : F (List D) := fun s => (k s).bind fun xs s1 => if xs.length ≤ sizeLine then .ok xs s1 else .no
theorem sn_lst (h : SA X B W es k) : SN X B W (.List es pos) (lstN k) := by
  refine PE.imp (pe_lst h) fun σ H Q ⟨M, s, r, p⟩ => ⟨M, s, r, PostN.bind p fun xs s1 M1 H1 vs r1 q1 ev1 p1 => ?_⟩
  split at p1
  · rename_i hz
    exact ⟨by rw [q1.length]; exact hz, fun a na => p1.laid r1 na q1⟩
  · exact p1.elim
/-- a call whose value is a new list -/
def OpW (K : PySem.W.Frag) (r : List V → Hp → VK → Prop) (o : List D → Option (List D)) : Prop := ∀ (xs ds : List D), o xs = some ds → ∀ (M : MS) (H : Hp) (vs : List V) (Q : VK), MOk M H → RpL K M H vs xs → (∀ p ws H', Same H H' → H' p = none → RpL K M H' ws ds → Q (.ref p) (upd H' p (.lst ws))) → r vs H Q
theorem OpW.toN {K : PySem.W.Frag} {r : List V → Hp → VK → Prop} {o : List D → Option (List D)} (h : OpW K r o) : OpN K r fun xs => (o xs).map .lst := fun xs d e M H vs Q m q k => by
  have e : (o xs).map D.lst = some d := e
  cases h1 : o xs with
  | none => rw [h1] at e; cases e
  | some ds =>
    rw [h1] at e
    cases e
    exact h xs ds h1 M H vs Q m q fun p ws H' sm hp hw => k _ _ (fun b o z => (same_upd hp) b o (sm b o z)) (new_lst (m.same sm) hp hw)
def toRL (o : Option (List D)) (s : List Sl) : R (List D) := match o with
  | some d => .ok d s
  | none => .no
def opnN (o : List D → Option (List D)) (k : F (List D)) : F (List D) := fun s => (k s).bind fun xs s1 => toRL (o xs) s1
theorem nN_run {r : List V → Hp → VK → Prop} {o : List D → Option (List D)} (hr : OpW B.K r o) {σ : L2.St} {H : Hp} {Q : VK} (p : tN B W (opnN o k) σ H Q) : tCB r (tP B W (rhoL B) k) σ H Q := by
  obtain ⟨M, s, r, p⟩ := p
  refine ⟨M, s, r, PostN.bind p fun xs s1 M1 H1 vs r1 q1 ev1 p1 => ?_⟩
  unfold toRL at p1
  split at p1
  · rename_i d e
    exact hr xs d e M1 H1 vs Q r1.mo q1 fun p ws H' sm hp hw => (PostN.later p1 (.same sm)).laid (r1.grow sm) hp hw
  · exact p1.elim
theorem sn_callB {x : Str} {id : String} {p pos : Pos} {r : List V → Hp → VK → Prop} {o : List D → Option (List D)} (hc : CallR X (.builtin id) r) (hr : OpW B.K r o) (hg : Gl X x) (hm : X.mg x = none) (hv : bootBuiltins x = some (.builtin id)) (ha : SA X B W (e :: es) k) (hn : x ≠ "__name__" := by decide) (hdb : (x == ("__debug__" : Str)) = false := by decide)
    (he : starEach (e :: es) X.env = (false, eval e X.env) :: starEach es X.env := by rfl) (hpl : (backTo pos (starEach es X.env)).any (·.1) = false := by rfl) : SN X B W (.Call (.Name x p) (e :: es) [] pos) (opnN o k) :=
  PE.imp (pe_callB hc hg hm hv ha hn hdb he hpl) fun σ H Q p => nN_run hr p
theorem sn_callTy {x : Str} {T : String} {p pos : Pos} {r : List V → Hp → VK → Prop} {o : List D → Option (List D)} (hc : CallR X (.type T) r) (hr : OpW B.K r o) (hg : Gl X x) (hm : X.mg x = none) (hv : bootBuiltins x = some (.type T)) (ha : SA X B W (e :: es) k) (hn : x ≠ "__name__" := by decide) (hdb : (x == ("__debug__" : Str)) = false := by decide)
    (he : starEach (e :: es) X.env = (false, eval e X.env) :: starEach es X.env := by rfl) (hpl : (backTo pos (starEach es X.env)).any (·.1) = false := by rfl) : SN X B W (.Call (.Name x p) (e :: es) [] pos) (opnN o k) :=
  PE.imp (pe_callTy hc hg hm hv ha hn hdb he hpl) fun σ H Q p => nN_run hr p

/-! ### tests -/
def tstF (f : F D) : F Bool := fun s => (f s).bind fun x s1 => match x with
  | .bl b => .ok b s1
  | _ => .no
theorem st_val (h : SE X B W e f) (he : ∀ whole, isTrue e X.env whole = (do let v ← whole; standAt e.pos; holding [v] (truthy v)) := by intro _; rfl) : ST X B W e (tstF f) := by
  refine PT.imp (pt_val h he) fun σ H Q ⟨M, s, r, p⟩ => ⟨M, s, r, Post.bind p fun x s1 M1 H1 v r1 q1 ev1 p1 => ?_⟩
  split at p1
  · cases q1
    exact ⟨_, rfl, p1.out r1 rfl⟩
  · exact p1.elim
theorem st_cmp {op : CmpOp} {r : R2} {o : D → D → Option D} (ho : OpR X (compareOp op) r) (hr : Op2 B.K r o) (ha : SE X B W a f) (hb : SE X B W b g) (hm : behindInMarks op b = false := by rfl) : ST X B W (.Compare a [op] [b] pos) (tstF (op2F o f g)) := by
  refine PT.imp (pt_cmpR ho ha hb hm) fun σ H Q ⟨M, s, r, p⟩ => ?_
  have p' : tP B W (rhoD B) (op2F o f g) σ H fun x H1 => ∃ c, x = .bl c ∧ Q c H1 := ⟨M, s, r, Post.bind p fun x s1 M1 H1 v r1 q1 ev1 p1 => by
    split at p1
    · cases q1
      exact ⟨_, rfl, p1.out r1 rfl⟩
    · exact p1.elim⟩
  exact two_run hr p'
def notT (f : F Bool) : F Bool := fun s => (f s).bind fun c s1 => .ok (!c) s1
def andT (f g : F Bool) : F Bool := fun s => (f s).bind fun c s1 => if c = true then g s1 else .ok false s1
def orT (f g : F Bool) : F Bool := fun s => (f s).bind fun c s1 => if c = true then .ok true s1 else g s1
variable {u v : F Bool} {rest : List Expr}
def SW (X : Cx) (B : Bs) (W : WX) (e : Expr) (f : F Bool) : Prop := PW X e (tP B W rhoB f)
theorem PW.imp {e : Expr} {t u : TT} (h : PW X e t) (k : ∀ σ H Q, u σ H Q → t σ H Q) : PW X e u := ⟨fun wh pins s σ H Q I q => h.run wh pins s σ H Q I (k σ H Q q)⟩
theorem SW.st (h : SW X B W e u) : ST X B W e u := PW.pt h
theorem st_not (h : ST X B W a u) : ST X B W (.UnaryOp .Not a pos) (notT u) :=
  PT.imp (pt_not h) fun σ H Q ⟨M, s, r, p⟩ => ⟨M, s, r, Post.bind p fun c s1 M1 H1 b r1 q1 ev1 p1 => p1.out r1 (by rw [q1])⟩
theorem sw_and1 (h : ST X B W a u) : SW X B W (.BoolOp .And [a] pos) u := pw_and1 h
theorem sw_or1 (h : ST X B W a u) : SW X B W (.BoolOp .Or [a] pos) u := pw_or1 h
theorem sw_and (ha : ST X B W a u) (hb : SW X B W (.BoolOp .And (b :: rest) pos) v) : SW X B W (.BoolOp .And (a :: b :: rest) pos) (andT u v) := by
  refine PW.imp (pw_and ha hb) fun σ H Q ⟨M, s, r, p⟩ => ⟨M, s, r, Post.bind p fun c s1 M1 H1 b r1 q1 ev1 p1 => ?_⟩
  have q1 : b = c := q1
  subst q1
  cases b with
  | true => exact ⟨M1, s1, r1, p1⟩
  | false => exact p1.out r1 rfl
theorem sw_or (ha : ST X B W a u) (hb : SW X B W (.BoolOp .Or (b :: rest) pos) v) : SW X B W (.BoolOp .Or (a :: b :: rest) pos) (orT u v) := by
  refine PW.imp (pw_or ha hb) fun σ H Q ⟨M, s, r, p⟩ => ⟨M, s, r, Post.bind p fun c s1 M1 H1 b r1 q1 ev1 p1 => ?_⟩
  have q1 : b = c := q1
  subst q1
  cases b with
  | true => exact p1.out r1 rfl
  | false => exact ⟨M1, s1, r1, p1⟩
/-- .. as values -/
def notF (f : F D) : F D := fun s => (f s).bind fun x s1 => match x with
  | .bl b => .ok (.bl (!b)) s1
  | _ => .no
def andF (f g : F D) : F D := fun s => (f s).bind fun x s1 => match x with
  | .bl true => g s1
  | .bl false => .ok (.bl false) s1
  | _ => .no
def orF (f g : F D) : F D := fun s => (f s).bind fun x s1 => match x with
  | .bl false => g s1
  | .bl true => .ok (.bl true) s1
  | _ => .no
theorem se_one {op} (h : SE X B W a f) : SE X B W (.BoolOp op [a] pos) f := pe_one h
theorem se_not (ha : SE X B W a f) : SE X B W (.UnaryOp .Not a pos) (notF f) := by
  refine PE.imp (pe_not ha) fun σ H Q ⟨M, s, r, p⟩ => ⟨M, s, r, Post.bind p fun x s1 M1 H1 v r1 q1 ev1 p1 => ?_⟩
  split at p1
  · cases q1
    exact ⟨_, rfl, p1.out r1 (.bl _)⟩
  · exact p1.elim
theorem se_and (ha : SE X B W a f) (hb : SE X B W (.BoolOp .And (b :: rest) pos) g) : SE X B W (.BoolOp .And (a :: b :: rest) pos) (andF f g) := by
  refine PE.imp (pe_and ha hb) fun σ H Q ⟨M, s, r, p⟩ => ⟨M, s, r, Post.bind p fun x s1 M1 H1 v r1 q1 ev1 p1 => ?_⟩
  split at p1
  · cases q1
    exact ⟨true, rfl, M1, s1, r1, p1⟩
  · cases q1
    exact ⟨false, rfl, p1.out r1 (.bl _)⟩
  · exact p1.elim
theorem se_or (ha : SE X B W a f) (hb : SE X B W (.BoolOp .Or (b :: rest) pos) g) : SE X B W (.BoolOp .Or (a :: b :: rest) pos) (orF f g) := by
  refine PE.imp (pe_or ha hb) fun σ H Q ⟨M, s, r, p⟩ => ⟨M, s, r, Post.bind p fun x s1 M1 H1 v r1 q1 ev1 p1 => ?_⟩
  split at p1
  · cases q1
    exact ⟨false, rfl, M1, s1, r1, p1⟩
  · cases q1
    exact ⟨true, rfl, p1.out r1 (.bl _)⟩
  · exact p1.elim
def ifF (u : F Bool) (f g : F D) : F D := fun s => (u s).bind fun c s1 => if c = true then f s1 else g s1
theorem se_if (hc : ST X B W c u) (ha : SE X B W a f) (hb : SE X B W b g) : SE X B W (.IfExp c a b pos) (ifF u f g) := by
  refine PE.imp (pe_ifExp hc ha hb) fun σ H Q ⟨M, s, r, p⟩ => ⟨M, s, r, Post.bind p fun c s1 M1 H1 b r1 q1 ev1 p1 => ?_⟩
  have q1 : b = c := q1
  subst q1
  cases b with
  | true => exact ⟨M1, s1, r1, p1⟩
  | false => exact ⟨M1, s1, r1, p1⟩
/-- a chain of two comparisons -/
def chainF (o o' : D → D → Option D) (f g h : F D) : F D := fun s => (f s).bind fun x s1 => (g s1).bind fun y s2 => match o x y with
  | some (.bl true) => (h s2).bind fun z s3 => toR (o' y z) s3
  | some (.bl false) => .ok (.bl false) s2
  | _ => .no
theorem se_chain {op op' : CmpOp} {r r' : R2} {o o' : D → D → Option D} (ho : OpR X (compareOp op) r) (ho' : OpR X (compareOp op') r') (hr : Op2 B.K r o) (hr' : Op2 B.K r' o') (ha : SE X B W a f) (hb : SE X B W b g) (hc : SE X B W c h)
    (hm : lastMarks [op, op'] [b, c] = false := by with_unfolding_all rfl) : SE X B W (.Compare a [op, op'] [b, c] pos) (chainF o o' f g h) := by
  refine PE.imp (pe_chain ho ho' ha hb hc hm) fun σ H Q ⟨M, s, r0, p⟩ => ⟨M, s, r0, Post.bind p fun x s1 M1 H1 v r1 q1 ev1 p1 => ⟨M1, s1, r1, Post.bind p1 fun y s2 M2 H2 u r2 q2 ev2 p2 => ?_⟩⟩
  split at p2
  · rename_i e
    refine hr x y _ e M2 H2 v u _ r2.mo (q1.move r1.mo ev2) q2 fun w H' sm q => ?_
    cases q
    refine ⟨true, rfl, M2, s2, r2.grow sm, Post.bind (Post.later p2 (.same sm)) fun z s3 M3 H3 w3 r3 q3 ev3 p3 => ?_⟩
    unfold toR at p3
    split at p3
    · rename_i d e3
      exact hr' y z d e3 M3 H3 u w3 Q r3.mo ((q2.move r2.mo (.same sm)).move (r2.mo.same sm) ev3) q3 fun w H' sm q => p3.grow r3 sm q
    · exact p3.elim
  · rename_i e
    refine hr x y _ e M2 H2 v u _ r2.mo (q1.move r1.mo ev2) q2 fun w H' sm q => ?_
    cases q
    exact ⟨false, rfl, p2.grow r2 sm (.bl false)⟩
  · exact p2.elim
end
end Fx

set_option Elab.async false
set_option linter.all false
set_option maxRecDepth 100000
namespace Fx
open PySem L2

/-! ### statements -/
inductive Out where
  | nx (s : List Sl) | rt (d : D) (s : List Sl) | rn (ds : List D) (s : List Sl) | bk (s : List Sl) | ct (s : List Sl) | er (x : XD) (s : List Sl) | no
abbrev G := List Sl → Out
def PostS (B : Bs) (W : WX) (M : MS) (H : Hp) (o : Out) (E : Ends) : Prop :=
  match o with
  | .nx s' => ∀ σ' H' M', SR B M' σ' H' s' → Ev M H M' H' → E.nx σ' H'
  | .rt d s' => ∀ v σ' H' M', SR B M' σ' H' s' → Rp B.K M' H' v d → Ev M H M' H' → E.rt v H'
  | .rn ds s' => ∀ p σ' H' M', SR B M' σ' H' s' → Owned B σ' s' M' H' p ds → Ev M H M' H' → E.rt (.ref p) H'
  | .bk s' => ∀ σ' H' M', SR B M' σ' H' s' → Ev M H M' H' → E.bk σ' H'
  | .ct s' => ∀ σ' H' M', SR B M' σ' H' s' → Ev M H M' H' → E.ct σ' H'
  | .er x s' => ∀ cls od σ' H' M', SR B M' σ' H' s' → XR B.K M' H' cls od x → W cls od σ' H'
  | .no => False
def tS (B : Bs) (W : WX) (g : G) : TS := fun E σ H => ∃ M s, SR B M σ H s ∧ PostS B W M H (g s) E
def SS (X : Cx) (B : Bs) (W : WX) (st : Stmt) (g : G) : Prop := PS X st (tS B W g)
def SSs (X : Cx) (B : Bs) (W : WX) (st : List Stmt) (g : G) : Prop := PSs X st (tS B W g)
variable {α β : Type}
def R.out (r : R α) (f : α → List Sl → Out) : Out := match r with
  | .ok a s => f a s
  | .er x s => .er x s
  | .no => .no
@[simp] theorem R.out_ok {a : α} {s : List Sl} {f : α → List Sl → Out} : (R.ok a s).out f = f a s := rfl
@[simp] theorem R.out_er {x : XD} {s : List Sl} {f : α → List Sl → Out} : (R.er x s).out f = .er x s := rfl
@[simp] theorem R.out_no {f : α → List Sl → Out} : (R.no).out f = .no := rfl
section
variable {B : Bs} {W : WX} {M M' : MS} {σ : L2.St} {H H' : Hp} {s : List Sl} {rho : RelT β α}
theorem PostS.later {o : Out} {E : Ends} (h : PostS B W M H o E) (ev : Ev M H M' H') : PostS B W M' H' o E := by
  cases o with
  | nx s' => exact fun a b c d e => h a b c d (ev.trans e)
  | rt d s' => exact fun v a b c d r e => h v a b c d r (ev.trans e)
  | rn d s' => exact fun v a b c d r e => h v a b c d r (ev.trans e)
  | bk s' => exact fun a b c d e => h a b c d (ev.trans e)
  | ct s' => exact fun a b c d e => h a b c d (ev.trans e)
  | er x s' => exact h
  | no => exact h
theorem PostS.bind {r : R α} {g : α → G} {E : Ends} {Q1 : β → Hp → Prop} (h : PostS B W M H (r.out g) E)
    (k : ∀ d s1 M1 H1 x, SR B M1 σ H1 s1 → rho M1 H1 x d → Ev M H M1 H1 → PostS B W M1 H1 (g d s1) E → Q1 x H1) : Post B W rho M H σ r Q1 := by
  cases r with
  | ok d s' => exact fun v H2 M2 a b c => k d s' M2 H2 v a b c (PostS.later h c)
  | er x s' => exact fun cls od H' M' a b => h cls od σ H' M' a b
  | no => exact h
theorem PostS.bindN {r : R (List D)} {g : List D → G} {E : Ends} {Q1 : VK} (h : PostS B W M H (r.out g) E)
    (k : ∀ ds s1 M1 H1 p, SR B M1 σ H1 s1 → Owned B σ s1 M1 H1 p ds → Ev M H M1 H1 → PostS B W M1 H1 (g ds s1) E → Q1 (.ref p) H1) : PostN B W M H σ r Q1 := by
  cases r with
  | ok d s' => exact fun v H2 M2 a b c => k d s' M2 H2 v a b c (PostS.later h c)
  | er x s' => exact fun cls od H' M' a b => h cls od σ H' M' a b
  | no => exact h
end
section
variable {X : Cx} {B : Bs} {W : WX} {st : Stmt} {rest : List Stmt} {g h : G} {e : Expr} {f : F D} {k : F (List D)} {pos : Pos}
def nextG : G := fun s => .nx s
def seqG (g h : G) : G := fun s => match g s with
  | .nx s1 => h s1
  | .rt d s1 => .rt d s1
  | .rn d s1 => .rn d s1
  | .bk s1 => .bk s1
  | .ct s1 => .ct s1
  | .er x s1 => .er x s1
  | .no => .no
theorem ss_nil : SSs X B W [] nextG := PSs.imp pss_nil fun E σ H ⟨M, s, r, p⟩ => p σ H M r .rfl
theorem ss_one (h1 : SS X B W st g) : SSs X B W [st] g := pss_one h1
theorem ss_cons (h1 : SS X B W st g) (h2 : SSs X B W rest h) : SSs X B W (st :: rest) (seqG g h) := by
  refine PSs.imp (pss_cons h1 h2) fun E σ H ⟨M, s, r, p⟩ => ⟨M, s, r, ?_⟩
  unfold seqG at p
  revert p
  cases g s with
  | nx s1 => exact fun p σ' H' M' a b => ⟨M', s1, a, PostS.later p b⟩
  | rt d s1 => exact fun p => p
  | rn d s1 => exact fun p => p
  | bk s1 => exact fun p => p
  | ct s1 => exact fun p => p
  | er x s1 => exact fun p => p
  | no => exact fun p => p
def noG : G := fun _ => .no
theorem ss_never : SS X B W st noG := PS.imp ps_never fun E σ H ⟨M, s, r, p⟩ => p
theorem sss_never : SSs X B W rest noG := PSs.imp pss_never fun E σ H ⟨M, s, r, p⟩ => p
theorem ss_pass : SS X B W (.Pass pos) nextG := PS.imp ps_pass fun E σ H ⟨M, s, r, p⟩ => p σ H M r .rfl
def breakG : G := fun s => .bk s
def contG : G := fun s => .ct s
theorem ss_break : SS X B W (.Break pos) breakG := PS.imp ps_break fun E σ H ⟨M, s, r, p⟩ => p σ H M r .rfl
theorem ss_continue : SS X B W (.Continue pos) contG := PS.imp ps_continue fun E σ H ⟨M, s, r, p⟩ => p σ H M r .rfl
def dropG (f : F D) : G := fun s => (f s).out fun _ s1 => .nx s1
theorem ss_expr (he : SE X B W e f) (hs : swapsWith e none pos.line X.env = pure false := by rfl) : SS X B W (.Expr e pos) (dropG f) :=
  PS.imp (ps_expr he hs) fun E σ H ⟨M, s, r, p⟩ => ⟨M, s, r, PostS.bind p fun d s1 M1 H1 v r1 q1 ev1 p1 => p1 σ H1 M1 r1 .rfl⟩
def retG (f : F D) : G := fun s => (f s).out fun d s1 => .rt d s1
theorem ss_ret (he : SE X B W e f) : SS X B W (.Return (some e) pos) (retG f) :=
  PS.imp (ps_ret he) fun E σ H ⟨M, s, r, p⟩ => ⟨M, s, r, PostS.bind p fun d s1 M1 H1 v r1 q1 ev1 p1 => p1 v σ H1 M1 r1 q1 .rfl⟩
def retNG (k : F (List D)) : G := fun s => (k s).out fun d s1 => .rn d s1
theorem ss_retN (he : SN X B W e k) : SS X B W (.Return (some e) pos) (retNG k) :=
  PS.imp (ps_ret he) fun E σ H ⟨M, s, r, p⟩ => ⟨M, s, r, PostS.bindN p fun d s1 M1 H1 v r1 q1 ev1 p1 => p1 v σ H1 M1 r1 q1 .rfl⟩
def retNonG : G := fun s => .rt .non s
theorem ss_retNone : SS X B W (.Return none pos) retNonG := PS.imp ps_retN fun E σ H ⟨M, s, r, p⟩ => p _ σ H M r .non .rfl
/-- return of a name: a list of one's own is handed on as such -/
def retV (i : Nat) : G := fun s => match s[i]? with
  | some (.va d) => .rt d s
  | some (.ow ds) => .rn ds (s.set i .un)
  | _ => .no
theorem SR.forget {B : Bs} {M : MS} {σ : L2.St} {H : Hp} {s : List Sl} {i : Nat} (r : SR B M σ H s) (hi : ∀ ds : List D, s[i]? ≠ some (.io ds)) : SR B M σ H (s.set i .un) where
  va := fun j d h1 => by
    rcases nth_set h1 with ⟨rfl, e1⟩ | ⟨n, h2⟩
    · cases e1
    · exact r.va j d h2
  ow := fun j d h1 => by
    rcases nth_set h1 with ⟨rfl, e1⟩ | ⟨n, h2⟩
    · cases e1
    · exact r.ow j d h2
  io := fun j d h1 => by
    rcases nth_set h1 with ⟨rfl, e1⟩ | ⟨n, h2⟩
    · cases e1
    · exact r.io j d h2
  pa := fun a ha => by
    obtain ⟨h1, ds, h2⟩ := r.pa a ha
    refine ⟨h1, ds, ?_⟩
    have ei : i ≠ 0 := fun z => hi ds (by rw [z]; exact h2)
    rw [List.getElem?_set_ne ei]
    exact h2
  ne := fun j k ds es a n h1 h2 h3 h4 => by
    rcases nth_set h1 with ⟨rfl, e1⟩ | ⟨_, h1⟩
    · cases e1
    · rcases nth_set h2 with ⟨rfl, e1⟩ | ⟨_, h2⟩
      · cases e1
      · exact r.ne j k ds es a n h1 h2 h3 h4
  mo := r.mo
  up := r.up
  dn := r.dn
  st := r.st
  bm := r.bm
  lk := fun b o e => by
    obtain ⟨h1, h2, h3⟩ := r.lk b o e
    refine ⟨h1, h2, fun z => ?_⟩
    rcases z.of_set2 with z | ⟨⟨ds, z | z⟩, _⟩
    · exact h3 z
    · cases z
    · cases z
  len := by rw [List.length_set]; exact r.len
theorem ss_retV (i : Nat) {x : Str} {p' : Pos} (hN : X.N[i]? = some x := by rfl) (hv : Vis X.env.scope x := by first | exact Or.inl rfl | exact Or.inr (Or.inl rfl) | exact Or.inr (Or.inr rfl)) (hd : (x == ("__debug__" : Str)) = false := by decide)
    (hcd : (x == ("__classdict__" : Str)) = false := by decide) : SS X B W (.Return (some (.Name x p')) pos) (retV i) := by
  refine PS.imp (ps_ret (pe_var hN hv hd hcd)) fun E σ H ⟨M, s, r, p⟩ => ?_
  unfold retV at p
  split at p
  · rename_i d e
    obtain ⟨v, e1, q⟩ := r.va i d e
    exact ⟨v, e1, p v σ H M r q .rfl⟩
  · rename_i ds e
    obtain ⟨a, xs, e1, q, m, n, l⟩ := r.ow i ds e
    have hL : B.L a = none := by
      cases h : B.L a with
      | none => rfl
      | some o => exact absurd ⟨i, ds, .inl e, e1⟩ (r.lk a o h).2.2
    refine ⟨_, e1, p a σ H M (r.forget fun ds z => by rw [e] at z; cases z) ⟨xs, q, m, n, l, hL, fun j es h z => ?_⟩ .rfl⟩
    rcases nth_set h with ⟨rfl, e1'⟩ | ⟨hj, h2⟩
    · cases e1'
    · exact r.ne i j ds es a hj e h2 e1 z
  · exact p.elim
def ifG (u : F Bool) (g h : G) : G := fun s => (u s).out fun b s1 => if b = true then g s1 else h s1
theorem ss_if {c : Expr} {a b : List Stmt} {u : F Bool} (hc : ST X B W c u) (ha : SSs X B W a g) (hb : SSs X B W b h) : SS X B W (.If c a b pos) (ifG u g h) := by
  refine PS.imp (ps_if hc ha hb) fun E σ H ⟨M, s, r, p⟩ => ⟨M, s, r, PostS.bind p fun d s1 M1 H1 v r1 q1 ev1 p1 => ?_⟩
  have q1 : v = d := q1
  subst q1
  cases v with
  | true => exact ⟨M1, s1, r1, p1⟩
  | false => exact ⟨M1, s1, r1, p1⟩

/-! ### targets -/
def okSl (s : List Sl) (i : Nat) : Bool := match s[i]? with
  | some (.io _) => false
  | some _ => true
  | none => false
theorem okSl.io {s : List Sl} {i : Nat} (h : okSl s i = true) : ∀ ds : List D, s[i]? ≠ some (.io ds) := fun ds z => by
  unfold okSl at h
  rw [z] at h
  cases h
theorem okSl.lt {s : List Sl} {i : Nat} (h : okSl s i = true) : i < s.length := by
  unfold okSl at h
  cases e : s[i]? with
  | none => rw [e] at h; cases h
  | some x => exact (List.getElem?_eq_some_iff.mp e).1
abbrev AS := D → List Sl → Option (List Sl)
def setA (i : Nat) : AS := fun d s => if okSl s i = true then some (s.set i (.va d)) else none
/-- all slots but ks are as they were -/
def Out1 (ks : List Nat) (σ σ' : L2.St) : Prop := σ'.length = σ.length ∧ ∀ i, i ∉ ks → σ'[i]? = σ[i]?
def tA (B : Bs) (ks : List Nat) (a : AS) : TG := fun v σ H Q => ∃ M s d, SR B M σ H s ∧ Rp B.K M H v d ∧ match a d s with
  | some s' => ∀ σ' H' M', SR B M' σ' H' s' → Ev M H M' H' → Out1 ks σ σ' → Q σ' H'
  | none => False
def SG (X : Cx) (B : Bs) (ks : List Nat) (tg : Expr) (a : AS) : Prop := PG X tg (tA B ks a)
theorem sg_name {i : Nat} {x : Str} (hN : X.N.Nodup) (hi : X.N[i]? = some x) (hx : Loc X.env.scope x) (hf : X.fn x = true ∨ X.env.scope.names.lookup x = some .local := by first | exact .inl rfl | exact .inr rfl | assumption) : SG X B [i] (.Name x pos) (setA i) := by
  refine PG.imp (pg_name hN hi hx hf) fun v σ H Q ⟨M, s, d, r, q, p⟩ => ?_
  unfold setA at p
  split at p
  · rename_i s' e
    split at e
    · rename_i h
      cases e
      exact p _ H M (r.put q (okSl.io h) (okSl.lt h)) .rfl ⟨List.length_set .., fun j hj => List.getElem?_set_ne fun z => hj (by simp [z])⟩
    · cases e
  · exact p.elim
abbrev ASs := List D → List Sl → Option (List Sl)
def tAs (B : Bs) (ks : List Nat) (a : ASs) : TGs := fun vs σ H Q => ∃ M s ds, SR B M σ H s ∧ RpL B.K M H vs ds ∧ match a ds s with
  | some s' => ∀ σ' H' M', SR B M' σ' H' s' → Ev M H M' H' → Out1 ks σ σ' → Q σ' H'
  | none => False
def SGs (X : Cx) (B : Bs) (ks : List Nat) (tg : List Expr) (a : ASs) : Prop := PGs X tg (tAs B ks a)
theorem PGs.imp {es : List Expr} {t u : TGs} (h : PGs X es t) (k : ∀ v σ H Q, u v σ H Q → t v σ H Q) : PGs X es u := ⟨fun pins s σ H vs us Q I r q => h.run pins s σ H vs us Q I r (k vs σ H Q q)⟩
def nilA : ASs := fun ds s => match ds with
  | [] => some s
  | _ => none
def consA (a : AS) (b : ASs) : ASs := fun ds s => match ds with
  | d :: ds => (a d s).bind fun s1 => b ds s1
  | [] => none
theorem sgs_nil : SGs X B [] [] nilA := PGs.imp pgs_nil fun vs σ H Q ⟨M, s, ds, r, q, p⟩ => by
  cases q with
  | nil => exact ⟨rfl, p σ H M r .rfl ⟨rfl, fun _ _ => rfl⟩⟩
  | cons _ _ => exact p.elim
theorem sgs_cons {es : List Expr} {ks ls : List Nat} {a : AS} {b : ASs} (h1 : SG X B ks e a) (h2 : SGs X B ls es b) (hs : (assignEach (e :: es) X.env).map (·.2) = assign e X.env :: (assignEach es X.env).map (·.2) := by rfl) : SGs X B (ks ++ ls) (e :: es) (consA a b) :=
  PGs.imp (pgs_cons h1 h2 hs) fun vs σ H Q ⟨M, s, ds, r, q, p⟩ => by
    cases q with
    | nil => exact p.elim
    | @cons v vs d ds q qs =>
      refine ⟨v, vs, rfl, M, s, d, r, q, ?_⟩
      unfold consA at p
      dsimp only at p
      cases h : a d s with
      | none => rw [h] at p; exact p
      | some s1 =>
        rw [h] at p
        intro σ' H' M' r' ev o1
        refine ⟨M', s1, ds, r', qs.move r.mo ev, ?_⟩
        dsimp only [Option.bind] at p
        revert p
        cases b ds s1 with
        | none => exact fun p => p
        | some s2 => exact fun p σ2 H2 M2 r2 ev2 o2 => p σ2 H2 M2 r2 (ev.trans ev2) ⟨o2.1.trans o1.1, fun i hi => by
          rw [List.mem_append, not_or] at hi
          exact (o2.2 i hi.2).trans (o1.2 i hi.1)⟩
def seqA (n : Nat) (b : ASs) : AS := fun d s => match d with
  | .tup ds => if ds.length = n then b ds s else none
  | .lst ds => if ds.length = n then b ds s else none
  | _ => none
theorem PG.or {tg : Expr} {t u : TG} (h1 : PG X tg t) (h2 : PG X tg u) : PG X tg (fun v σ H Q => t v σ H Q ∨ u v σ H Q) := ⟨fun pins s σ H v w Q I r q => q.elim (h1.run pins s σ H v w Q I r) (h2.run pins s σ H v w Q I r)⟩
theorem Rp.seq {K : PySem.W.Frag} {M : MS} {H : Hp} {v : V} {ds : List D} (h : Rp K M H v (.lst ds)) : ∃ a xs, v = .ref a ∧ SqL K H a xs ∧ RpL K M H xs ds := by
  cases h with
  | lst h n l => exact ⟨_, _, rfl, .of h, l⟩
theorem Rp.seqT {K : PySem.W.Frag} {M : MS} {H : Hp} {v : V} {ds : List D} (h : Rp K M H v (.tup ds)) : ∃ a xs, v = .ref a ∧ SqT K H a xs ∧ RpL K M H xs ds := by
  cases h with
  | tup h l => exact ⟨_, _, rfl, .of h, l⟩
  | tupK h l => exact ⟨_, _, rfl, h.sq H, l⟩
theorem sg_tup {es : List Expr} {ks : List Nat} {kk : Nat} {b : ASs} {n : Nat} (hc : X.calm = true) (hK : X.K = B.K) (h : SGs X B ks es b) (hn : (assignEach es X.env).length = n := by rfl) (hst : (assignEach es X.env).findIdx? (·.1) = none := by rfl) : SG X B ks (.Tuple es kk pos) (seqA n b) := by
  refine PG.imp (PG.or (pg_tup hc h hn hst) (pg_lst hc h hn hst)) fun v σ H Q ⟨M, s, d, r, q, p⟩ => ?_
  unfold seqA at p
  split at p
  · rename_i s' e
    split at e
    · split at e
      · rename_i ds hl
        obtain ⟨a, xs, rfl, hq, hx⟩ := q.seqT
        exact .inl ⟨a, xs, rfl, hK ▸ hq, hx.length.trans hl, M, s, ds, r, hx, by rw [e]; exact p⟩
      · cases e
    · split at e
      · rename_i ds hl
        obtain ⟨a, xs, rfl, hq, hx⟩ := q.seq
        exact .inr ⟨a, xs, rfl, hK ▸ hq, hx.length.trans hl, M, s, ds, r, hx, by rw [e]; exact p⟩
      · cases e
    · cases e
  · exact p.elim
def asgG (f : F D) (a : AS) : G := fun s => (f s).out fun d s1 => match a d s1 with
  | some s2 => .nx s2
  | none => .no
theorem ss_asg {tg : Expr} {ks : List Nat} {a : AS} (he : SE X B W e f) (hg : SG X B ks tg a) (hs : swapsWithSole [tg] e pos.line X.env = pure false := by rfl) (hw : swappedStores [tg] e X.env = pure none := by rfl)
    (h1 : (assignEach [tg] X.env).map (·.2) = [assign tg X.env] := by rfl) : SS X B W (.Assign [tg] e pos) (asgG f a) :=
  PS.imp (ps_asg he hg hs hw h1) fun E σ H ⟨M, s, r, p⟩ => ⟨M, s, r, PostS.bind p fun d s1 M1 H1 v r1 q1 ev1 p1 => ⟨M1, s1, d, r1, q1, by
    revert p1
    cases a d s1 with
    | none => exact fun p => p
    | some s2 => exact fun p σ' H' M' a b _ => p σ' H' M' a b⟩⟩
theorem ss_set {i : Nat} {x : Str} {pos' : Pos} (hN : X.N.Nodup) (hi : X.N[i]? = some x) (hx : Loc X.env.scope x) (he : SE X B W e f) (hs : swapsWith e (some (.Name x pos')) pos.line X.env = pure false := by rfl) (hf : X.fn x = true ∨ X.env.scope.names.lookup x = some .local := by first | exact .inl rfl | exact .inr rfl | assumption) :
    SS X B W (.Assign [.Name x pos'] e pos) (asgG f (setA i)) :=
  PS.imp (L2.ps_set hN hi hx he hs hf) fun E σ H ⟨M, s, r, p⟩ => ⟨M, s, r, PostS.bind p fun d s1 M1 H1 v r1 q1 ev1 p1 => by
    unfold setA at p1
    split at p1
    · rename_i s2 e
      split at e
      · rename_i h
        cases e
        exact p1 _ H1 M1 (r1.put q1 (okSl.io h) (okSl.lt h)) .rfl
      · cases e
    · exact p1.elim⟩
/-- name = a new list: the name's own -/
def setNG (i : Nat) (k : F (List D)) : G := fun s => (k s).out fun ds s1 => if okSl s1 i = true then .nx (s1.set i (.ow ds)) else .no
theorem setN_run {i : Nat} {E : Ends} {σ : L2.St} {M1 : MS} {H1 : Hp} {s1 : List Sl} {ds : List D} {p : Addr} (r1 : SR B M1 σ H1 s1) (q1 : Owned B σ s1 M1 H1 p ds) (p1 : PostS B W M1 H1 (if okSl s1 i = true then .nx (s1.set i (.ow ds)) else .no) E) : E.nx (σ.set i (some (.ref p))) H1 := by
  split at p1
  · rename_i h
    obtain ⟨xs, h1, h2, h3, h4, hL, h5⟩ := q1
    exact p1 _ H1 M1 (r1.putOw h1 h2 h3 h4 h5 hL (okSl.io h) (okSl.lt h)) .rfl
  · exact p1.elim
theorem ss_setN {i : Nat} {x : Str} {pos' : Pos} (hN : X.N.Nodup) (hi : X.N[i]? = some x) (hx : Loc X.env.scope x) (he : SN X B W e k) (hs : swapsWith e (some (.Name x pos')) pos.line X.env = pure false := by rfl) (hf : X.fn x = true ∨ X.env.scope.names.lookup x = some .local := by first | exact .inl rfl | exact .inr rfl | assumption) :
    SS X B W (.Assign [.Name x pos'] e pos) (setNG i k) :=
  PS.imp (L2.ps_set hN hi hx he hs hf) fun E σ H ⟨M, s, r, p⟩ => ⟨M, s, r, PostS.bindN p fun d s1 M1 H1 v r1 q1 ev1 p1 => setN_run r1 q1 p1⟩
/-- name op= e -/
def augG (i : Nat) (o : D → D → Option D) (f : F D) : G := fun s => match s[i]? with
  | some (.va x) => (f s).out fun y s1 => match o x y with
    | some z => if okSl s1 i = true then .nx (s1.set i (.va z)) else .no
    | none => .no
  | _ => .no
theorem ss_aug {i : Nat} {x : Str} {op : Operator} {r : R2} {o : D → D → Option D} {pos' : Pos} (hN : X.N.Nodup) (hi : X.N[i]? = some x) (hx : Loc X.env.scope x) (ho : OpR X (inplaceOp op) r) (hr : Op2 B.K r o) (he : SE X B W e f) (hf : X.fn x = true ∨ X.env.scope.names.lookup x = some .local := by first | exact .inl rfl | exact .inr rfl | assumption) :
    SS X B W (.AugAssign (.Name x pos') op e pos) (augG i o f) :=
  PS.imp (L2.ps_aug hN hi hx he (ti := r) ho hf) fun E σ H ⟨M, s, r0, p⟩ => by
    unfold augG at p
    split at p
    · rename_i d e1
      obtain ⟨v, h1, q⟩ := r0.va i d e1
      refine ⟨v, h1, M, s, r0, PostS.bind p fun y s1 M1 H1 u r1 q1 ev1 p1 => ?_⟩
      split at p1
      · rename_i z e2
        refine hr d y z e2 M1 H1 v u _ r1.mo (q.move r0.mo ev1) q1 fun w H' sm qz => ?_
        split at p1
        · rename_i h
          exact p1 _ H' M1 ((r1.grow sm).put qz (okSl.io h) (okSl.lt h)) (.same sm)
        · exact p1.elim
      · exact p1.elim
    · exact p.elim
/-! ### lists of one's own: read, changed -/
def ownAt (s : List Sl) (i : Nat) : Option (List D) := match s[i]? with
  | some (.va (.lst ds)) => some ds
  | some (.ow ds) => some ds
  | some (.io ds) => some ds
  | _ => none
theorem ownAt.run {B : Bs} {M : MS} {σ : L2.St} {H : Hp} {s : List Sl} {i : Nat} {ds : List D} (r : SR B M σ H s) (h : ownAt s i = some ds) : ∃ a xs, σ[i]? = some (some (.ref a)) ∧ SqL B.K H a xs ∧ RpL B.K M H xs ds := by
  unfold ownAt at h
  split at h
  · rename_i es e
    cases h
    obtain ⟨v, e1, q⟩ := r.va i _ e
    obtain ⟨a, xs, rfl, hq, hx⟩ := q.seq
    exact ⟨a, xs, e1, hq, hx⟩
  · rename_i es e
    cases h
    obtain ⟨a, xs, e1, q, m, n, l⟩ := r.ow i _ e
    exact ⟨a, xs, e1, .of q, l⟩
  · rename_i es e
    cases h
    obtain ⟨z, a, xs, p, e1, q, m, l⟩ := r.io i _ e
    exact ⟨a, xs, z ▸ e1, .of q, l⟩
  · cases h
/-- store a changed list at a slot of one's own -/
def ownPut (s : List Sl) (i : Nat) (ds : List D) : Option (List Sl) := match s[i]? with
  | some (.ow _) => some (s.set i (.ow ds))
  | some (.io _) => some (s.set i (.io ds))
  | _ => none
theorem ownPut.run {B : Bs} {M : MS} {σ : L2.St} {H : Hp} {s s' : List Sl} {i : Nat} {ds : List D} (r : SR B M σ H s) (h : ownPut s i ds = some s') :
    ∃ a xs, ∃ es : List D, ownAt s i = some es ∧ σ[i]? = some (some (.ref a)) ∧ H a = some (.lst xs) ∧ M a ∧ RpL B.K M H xs es ∧ ∀ H' ys, Step (fun b => b = a) H H' → H' a = some (.lst ys) → RpL B.K M H' ys ds → SR B M σ H' s' ∧ Ev M H M H' := by
  unfold ownPut at h
  split at h
  · rename_i es e
    cases h
    obtain ⟨a, xs, e1, q, m, n, l⟩ := r.ow i _ e
    exact ⟨a, xs, es, by unfold ownAt; rw [e], e1, q, m, l, fun H' ys st ha hx => r.mutated (io := false) e e1 ha hx st⟩
  · rename_i es e
    cases h
    obtain ⟨z, a, xs, p, e1, q, m, l⟩ := r.io i _ e
    subst z
    exact ⟨a, xs, es, by unfold ownAt; rw [e], e1, q, m, l, fun H' ys st ha hx => r.mutated (io := true) e e1 ha hx st⟩
  · cases h
theorem step_upd {H : Hp} {a : Addr} {o : HO} : Step (fun b => b = a) H (upd H a o) := fun b u e n => by
  rw [upd_ne n]
  exact e
theorem ownPut.upd {B : Bs} {M : MS} {σ : L2.St} {H : Hp} {s s' : List Sl} {i : Nat} {ds : List D} {a : Addr} {ys : List V} (r : SR B M σ H s) (h : ownPut s i ds = some s') (hs : σ[i]? = some (some (.ref a))) (hx : RpL B.K M H ys ds) : SR B M σ (upd H a (.lst ys)) s' ∧ Ev M H M (upd H a (.lst ys)) := by
  obtain ⟨a', xs', es, _, e1, q, m, l, k⟩ := ownPut.run r h
  rw [hs] at e1
  cases e1
  exact k _ ys step_upd upd_same (hx.move r.mo ⟨fun _ z => .inl z, fun b o e n => by rw [upd_ne fun z => n (by rw [z]; exact m)]; exact e⟩)
end
end Fx

set_option Elab.async false
set_option linter.all false
set_option maxRecDepth 100000
namespace Fx
open PySem L2
section
variable {X : Cx} {B : Bs} {W : WX} {e : Expr} {es : List Expr} {f g : F D} {k kk : F (List D)} {pos : Pos}

/-! ### own[i], len(own), own.append(e), own[i] = e, own.pop(..) -/
def atD (ds : List D) (i : Int) : Option D := (ixN ds.length i).bind fun j => ds[j]?
theorem atD.run {K : PySem.W.Frag} {M : MS} {H : Hp} {xs : List V} {ds : List D} {i : Int} {d : D} (q : RpL K M H xs ds) (h : atD ds i = some d) : ∃ v, atI xs i = some v ∧ Rp K M H v d := by
  unfold atD at h
  unfold atI
  rw [q.length]
  cases e : ixN ds.length i with
  | none => rw [e] at h; cases h
  | some j =>
    rw [e] at h
    exact q.get h
def ixOwnF (i : Nat) (g : F D) : F D := fun s => match ownAt s i with
  | none => .no
  | some _ => (g s).bind fun y s1 => match y, ownAt s1 i with
    | .int j, some ds => toR (atD ds j) s1
    | _, _ => .no
theorem se_ixOwn (i : Nat) {x : Str} {p' : Pos} (hK : X.K = B.K) (hg : SE X B W e g) (hN : X.N[i]? = some x := by rfl) (hv : Vis X.env.scope x := by first | exact Or.inl rfl | exact Or.inr (Or.inl rfl) | exact Or.inr (Or.inr rfl))
    (hs : PlainIx e := by exact fun _ _ => rfl) (hd : (x == ("__debug__" : Str)) = false := by decide) (hcd : (x == ("__classdict__" : Str)) = false := by decide) : SE X B W (.Subscript (.Name x p') e pos) (ixOwnF i g) := by
  refine PE.imp (pe_ix ix_list (pe_var hN hv hd hcd) hg hs) fun σ H Q ⟨M, s, r, p⟩ => ?_
  unfold ixOwnF at p
  split at p
  · exact p.elim
  · rename_i es0 e0
    obtain ⟨a, xs0, e1, _, _⟩ := ownAt.run r e0
    refine ⟨_, e1, M, s, r, Post.bind p fun y s1 M1 H1 u r1 q1 ev1 p1 => ?_⟩
    split at p1
    · rename_i j ds e2
      cases q1
      obtain ⟨a2, xs, e3, hq, hx⟩ := ownAt.run r1 e2
      rw [e1] at e3
      cases e3
      unfold toR at p1
      split at p1
      · rename_i d e4
        obtain ⟨w, hw, qw⟩ := atD.run hx e4
        exact ⟨a, xs, j, w, rfl, rfl, hK ▸ hq, hw, p1.out r1 qw⟩
      · exact p1.elim
    · exact p1.elim
def lenOwnF (i : Nat) : F D := fun s => match ownAt s i with
  | some ds => .ok (.int ds.length) s
  | none => .no
theorem se_lenOwn (i : Nat) {x : Str} {p' p'' : Pos} (hK : X.K = B.K) (hg : Gl X "len") (hm : X.mg "len" = none) (hN : X.N[i]? = some x := by rfl) (hv : Vis X.env.scope x := by first | exact Or.inl rfl | exact Or.inr (Or.inl rfl) | exact Or.inr (Or.inr rfl))
    (hd : (x == ("__debug__" : Str)) = false := by decide) (hcd : (x == ("__classdict__" : Str)) = false := by decide) : SE X B W (.Call (.Name "len" p') [.Name x p''] [] pos) (lenOwnF i) := by
  refine PE.imp (pe_callB call_len_seq hg hm PySem.boot_len (pa_cons (pe_var hN hv hd hcd) pa_nil)) fun σ H Q ⟨M, s, r, p⟩ => ?_
  unfold lenOwnF at p
  split at p
  · rename_i ds e0
    obtain ⟨a, xs, e1, hq, hx⟩ := ownAt.run r e0
    refine ⟨_, e1, a, xs, rfl, .inl (hK ▸ hq), ?_⟩
    rw [hx.length]
    exact p.out r (.int _)
  · exact p.elim
/-- own.append(e) as a statement -/
def appG (i : Nat) (f : F D) : G := fun s => match ownAt s i with
  | none => .no
  | some _ => (f s).out fun y s1 => match ownAt s1 i with
    | some ds => if ds.length < sizeLine then match ownPut s1 i (ds ++ [y]) with
      | some s2 => .nx s2
      | none => .no
      else .no
    | none => .no
theorem ss_app (i : Nat) {st : Stmt} (hK : X.K = B.K) (h : PS X st (tDrop (tBM X.K "list" rAppend (tVar i) (tCons (tP B W (rhoD B) f) tNil)))) : SS X B W st (appG i f) := by
  refine PS.imp h fun E σ H ⟨M, s, r, p⟩ => ?_
  unfold appG at p
  split at p
  · exact p.elim
  · rename_i es0 e0
    obtain ⟨a, xs0, e1, hq0, _⟩ := ownAt.run r e0
    refine ⟨_, e1, .inl ⟨rfl, xs0, hK ▸ hq0⟩, M, s, r, PostS.bind p fun y s1 M1 H1 u r1 q1 ev1 p1 => ?_⟩
    split at p1
    · rename_i ds e2
      split at p1
      · rename_i hz
        split at p1
        · rename_i s2 e4
          obtain ⟨a2, xs, es2, e5, e6, h7, h8, h9, _⟩ := ownPut.run r1 e4
          rw [e2] at e5
          cases e5
          rw [e1] at e6
          cases e6
          obtain ⟨r2, ev2⟩ := ownPut.upd r1 e4 e1 (h9.snoc q1)
          exact ⟨a, xs, u, rfl, rfl, h7, by rw [h9.length]; exact hz, p1 σ _ M1 r2 ev2⟩
        · exact p1.elim
      · exact p1.elim
    · exact p1.elim
/-- own[i] = e -/
def setIxG (i : Nat) (g : F D) (f : F D) : G := fun s => (f s).out fun y s1 => match ownAt s1 i with
  | none => .no
  | some _ => (g s1).out fun j s2 => match j, ownAt s2 i with
    | .int j, some ds => match ixN ds.length j with
      | some n => match ownPut s2 i (ds.set n y) with
        | some s3 => .nx s3
        | none => .no
      | none => .no
    | _, _ => .no
theorem ss_setIx (i : Nat) {x : Str} {e' : Expr} {p' tpos : Pos} (hK : X.K = B.K) (hg : SE X B W e' g) (he : SE X B W e f) (hN : X.N[i]? = some x := by rfl) (hv : Vis X.env.scope x := by first | exact Or.inl rfl | exact Or.inr (Or.inl rfl) | exact Or.inr (Or.inr rfl))
    (hd : (x == ("__debug__" : Str)) = false := by decide) (hcd : (x == ("__classdict__" : Str)) = false := by decide)
    (ha : ∀ v, assign (.Subscript (.Name x p') e' tpos) X.env v = (do
      let ov ← holding [v] (eval (.Name x p') X.env)
      let iv ← holding [v, ov] (eval e' X.env)
      standAt tpos
      holding [v, ov, iv] (setItem ov iv v)
      release [v, ov, iv] []) := by intro _; rfl)
    (hs : swapsWithSole [.Subscript (.Name x p') e' tpos] e pos.line X.env = pure false := by rfl) (hw : swappedStores [.Subscript (.Name x p') e' tpos] e X.env = pure none := by rfl)
    (h1 : (assignEach [.Subscript (.Name x p') e' tpos] X.env).map (·.2) = [assign (.Subscript (.Name x p') e' tpos) X.env] := by rfl) : SS X B W (.Assign [.Subscript (.Name x p') e' tpos] e pos) (setIxG i g f) := by
  refine PS.imp (ps_asg he (pg_sub (pe_var hN hv hd hcd) hg set_list ha) hs hw h1) fun E σ H ⟨M, s, r, p⟩ => ⟨M, s, r, PostS.bind p fun y s1 M1 H1 u r1 q1 ev1 p1 => ?_⟩
  split at p1
  · exact p1.elim
  · rename_i es0 e0
    obtain ⟨a, xs0, e1, hq0, _⟩ := ownAt.run r1 e0
    refine ⟨_, e1, M1, s1, r1, PostS.bind p1 fun j s2 M2 H2 w r2 q2 ev2 p2 => ?_⟩
    split at p2
    · rename_i j ds e2
      cases q2
      split at p2
      · rename_i n en
        split at p2
        · rename_i s3 e4
          obtain ⟨a2, xs, es2, e5, e6, h7, h8, h9, _⟩ := ownPut.run r2 e4
          rw [e2] at e5
          cases e5
          rw [e1] at e6
          cases e6
          obtain ⟨r3, ev3⟩ := ownPut.upd r2 e4 e1 (RpL.set (q1.move r1.mo ev2) n h9)
          exact ⟨a, xs, j, n, rfl, rfl, h7, by rw [h9.length]; exact en, p2 σ _ M2 r3 ev3⟩
        · exact p2.elim
      · exact p2.elim
    · exact p2.elim
/-- own.pop(e) -/
def popF (i : Nat) (g : F D) : F D := fun s => match ownAt s i with
  | none => .no
  | some _ => (g s).bind fun y s1 => match y, ownAt s1 i with
    | .int j, some ds => if -(2 ^ 63) ≤ j ∧ j < 2 ^ 63 then match seqIndex? j ds.length with
      | some n => match ds[n]?, ownPut s1 i (ds.eraseIdx n) with
        | some d, some s2 => .ok d s2
        | _, _ => .no
      | none => .no
      else .no
    | _, _ => .no
theorem RpL.erase {K : PySem.W.Frag} {M : MS} {H : Hp} : ∀ {vs : List V} {ds : List D} (i : Nat), RpL K M H vs ds → RpL K M H (vs.eraseIdx i) (ds.eraseIdx i)
  | _, _, _, .nil => by simpa using RpL.nil
  | _, _, 0, .cons _ t => t
  | _, _, i + 1, .cons q t => .cons q (RpL.erase i t)
theorem se_pop (i : Nat) {e0 : Expr} (hK : X.K = B.K) (h : PE X e0 (tBM X.K "list" rPopAt (tVar i) (tCons (tP B W (rhoD B) g) tNil))) : SE X B W e0 (popF i g) := by
  refine PE.imp h fun σ H Q ⟨M, s, r, p⟩ => ?_
  unfold popF at p
  split at p
  · exact p.elim
  · rename_i es0 e0
    obtain ⟨a, xs0, e1, hq0, _⟩ := ownAt.run r e0
    refine ⟨_, e1, .inl ⟨rfl, xs0, hK ▸ hq0⟩, M, s, r, Post.bind p fun y s1 M1 H1 u r1 q1 ev1 p1 => ?_⟩
    split at p1
    · rename_i j ds e2
      cases q1
      split at p1
      · rename_i hz
        split at p1
        · rename_i n hn
          split at p1
          · rename_i d s2 hd1 e4
            obtain ⟨a2, xs, es2, e5, e6, h7, h8, h9, _⟩ := ownPut.run r1 e4
            rw [e2] at e5
            cases e5
            rw [e1] at e6
            cases e6
            obtain ⟨r2, ev2⟩ := ownPut.upd r1 e4 e1 (h9.erase n)
            obtain ⟨v, hv1, qv⟩ := h9.get hd1
            exact ⟨a, xs, j, n, v, rfl, rfl, h7, hz.1, hz.2, by rw [h9.length]; exact hn, hv1, p1 v _ M1 r2 (qv.move r1.mo ev2) ev2⟩
          · exact p1.elim
        · exact p1.elim
      · exact p1.elim
    · exact p1.elim

/-! ### what is walked -/
/-- the iterator J walks the data ds, from (M, H) on -/
structure Wk (K : PySem.W.Frag) (M : MS) (H : Hp) (J : It) (ds : List D) : Prop where
  go : ∀ i d M' H', MOk M' H' → Ev M H M' H' → ds[i]? = some d → J.go i H' ∧ ∀ x H'', J.yld i H' x H'' → Same H' H'' ∧ Rp K M' H'' x d
  stop : ∀ M' H', MOk M' H' → Ev M H M' H' → J.stop ds.length H'
def PostI (B : Bs) (W : WX) (M : MS) (H : Hp) (σ : L2.St) (r : R (List D)) (Q : It → Hp → Prop) : Prop := match r with
  | .ok ds s' => ∀ J H' M', SR B M' σ H' s' → Wk B.K M' H' J ds → Ev M H M' H' → Q J H'
  | .er x s' => ∀ cls od H' M', SR B M' σ H' s' → XR B.K M' H' cls od x → W cls od σ H'
  | .no => False
def tI (B : Bs) (W : WX) (f : F (List D)) : TI := fun σ H Q => ∃ M s, SR B M σ H s ∧ PostI B W M H σ (f s) Q
def SI (X : Cx) (B : Bs) (W : WX) (tg iter : Expr) (f : F (List D)) : Prop := PI X tg iter (tI B W f)
theorem PI.imp {tg iter : Expr} {t u : TI} (h : PI X tg iter t) (k : ∀ σ H Q, u σ H Q → t σ H Q) : PI X tg iter u := ⟨fun pins s σ H Q I q => h.run pins s σ H Q I (k σ H Q q)⟩
theorem PI.or {tg iter : Expr} {t u : TI} (h1 : PI X tg iter t) (h2 : PI X tg iter u) : PI X tg iter (fun σ H Q => t σ H Q ∨ u σ H Q) := ⟨fun pins s σ H Q I q => q.elim (h1.run pins s σ H Q I) (h2.run pins s σ H Q I)⟩
variable {α β : Type} {M M' : MS} {σ : L2.St} {H H' : Hp} {s : List Sl}
theorem PostI.later {r : R (List D)} {Q : It → Hp → Prop} (h : PostI B W M H σ r Q) (ev : Ev M H M' H') : PostI B W M' H' σ r Q := by
  cases r with
  | ok d s' => exact fun v H2 M2 a b c => h v H2 M2 a b (ev.trans c)
  | er x s' => exact h
  | no => exact h
theorem PostI.bind {rho : RelT β α} {r : R α} {g : α → F (List D)} {Q : It → Hp → Prop} {Q1 : β → Hp → Prop} (h : PostI B W M H σ (r.bind g) Q)
    (k : ∀ d s1 M1 H1 x, SR B M1 σ H1 s1 → rho M1 H1 x d → Ev M H M1 H1 → PostI B W M1 H1 σ (g d s1) Q → Q1 x H1) : Post B W rho M H σ r Q1 := by
  cases r with
  | ok d s' => exact fun v H2 M2 a b c => k d s' M2 H2 v a b c (PostI.later h c)
  | er x s' => exact h
  | no => exact h
theorem PostI.out {ds : List D} {Q : It → Hp → Prop} {J : It} (h : PostI B W M H σ (.ok ds s) Q) (r : SR B M σ H s) (w : Wk B.K M H J ds) : Q J H := h J H M r w .rfl
theorem SqL.ev {K : PySem.W.Frag} {a : Addr} {xs : List V} (h : (Rd H a (.lst xs) ∧ ¬ M a) ∨ (∀ H, SqL K H a xs)) (ev : Ev M H M' H') : SqL K H' a xs := by
  rcases h with ⟨h, n⟩ | h
  · exact .inl (Rd.step ev.st n h)
  · exact h H'
theorem wk_list {K : PySem.W.Frag} {a : Addr} {xs : List V} {ds : List D} (m : MOk M H) (h : (Rd H a (.lst xs) ∧ ¬ M a) ∨ (∀ H, SqL K H a xs)) (l : RpL K M H xs ds) : Wk K M H (Itl K a) ds where
  go := fun i d M' H' m' ev e => by
    obtain ⟨v, hv, q⟩ := l.get e
    refine ⟨⟨xs, v, SqL.ev h ev, hv⟩, fun x H'' y => ?_⟩
    obtain ⟨rfl, y⟩ := y
    have := y xs (SqL.ev h ev)
    rw [hv] at this
    cases this
    exact ⟨.refl _, q.move m ev⟩
  stop := fun M' H' m' ev => ⟨xs, SqL.ev h ev, by rw [l.length]; exact Nat.le_refl _⟩
theorem SqT.ev {K : PySem.W.Frag} {a : Addr} {xs : List V} (m : MOk M H) (h : Rd H a (.tup xs) ∨ (∀ H, SqT K H a xs)) (ev : Ev M H M' H') : SqT K H' a xs := by
  rcases h with h | h
  · exact .inl (Rd.step ev.st (Rd.notMT m h) h)
  · exact h H'
theorem wk_tup {K : PySem.W.Frag} {a : Addr} {xs : List V} {ds : List D} (m : MOk M H) (h : Rd H a (.tup xs) ∨ (∀ H, SqT K H a xs)) (l : RpL K M H xs ds) : Wk K M H (Itt K a) ds where
  go := fun i d M' H' m' ev e => by
    obtain ⟨v, hv, q⟩ := l.get e
    refine ⟨⟨xs, v, SqT.ev m h ev, hv⟩, fun x H'' y => ?_⟩
    obtain ⟨rfl, y⟩ := y
    have := y xs (SqT.ev m h ev)
    rw [hv] at this
    cases this
    exact ⟨.refl _, q.move m ev⟩
  stop := fun M' H' m' ev => ⟨xs, SqT.ev m h ev, by rw [l.length]; exact Nat.le_refl _⟩
/-- over a list or a tuple -/
def iterF (f : F D) : F (List D) := fun s => (f s).bind fun d s1 => match d with
  | .lst ds => .ok ds s1
  | .tup ds => .ok ds s1
  | .fz ds => .ok ds s1
  | _ => .no
theorem si_seq {tg : Expr} (hK : X.K = B.K) (he : SE X B W e f) : SI X B W tg e (iterF f) := by
  refine PI.imp (PI.or (pi_list he) (pi_tup he)) fun σ H Q ⟨M, s, r, p⟩ => ?_
  unfold iterF at p
  cases hf : f s with
  | no => rw [hf] at p; exact p.elim
  | er x s1 =>
    refine .inl ⟨M, s, r, ?_⟩
    rw [hf] at p ⊢
    exact p
  | ok d s1 =>
    rw [hf, R.bind_ok] at p
    cases d with
    | lst ds =>
      refine .inl ⟨M, s, r, ?_⟩
      rw [hf]
      intro v H1 M1 r1 q1 ev1
      have p1 : PostI B W M1 H1 σ (.ok ds s1) Q := PostI.later p ev1
      cases q1 with
      | lst h n l => exact ⟨_, rfl, ⟨_, .of h⟩, (by rw [hK]; exact p1.out r1 (wk_list r1.mo (.inl ⟨.of h, n⟩) l))⟩
    | fz ds =>
      refine .inl ⟨M, s, r, ?_⟩
      rw [hf]
      intro v H1 M1 r1 q1 ev1
      have p1 : PostI B W M1 H1 σ (.ok ds s1) Q := PostI.later p ev1
      cases q1 with
      | fz h n l => exact ⟨_, rfl, ⟨_, .inl h⟩, (by rw [hK]; exact p1.out r1 (wk_list r1.mo (.inl ⟨h, n⟩) l))⟩
      | fzK h l => exact ⟨_, rfl, ⟨_, hK ▸ h H1⟩, (by rw [hK]; exact p1.out r1 (wk_list r1.mo (.inr h) l))⟩
    | tup ds =>
      refine .inr ⟨M, s, r, ?_⟩
      rw [hf]
      intro v H1 M1 r1 q1 ev1
      have p1 : PostI B W M1 H1 σ (.ok ds s1) Q := PostI.later p ev1
      cases q1 with
      | tup h l => exact ⟨_, rfl, ⟨_, .of h⟩, (by rw [hK]; exact p1.out r1 (wk_tup r1.mo (.inl (.of h)) l))⟩
      | tupK h l => exact ⟨_, rfl, ⟨_, hK ▸ h.sq H1⟩, (by rw [hK]; exact p1.out r1 (wk_tup r1.mo (.inr h.sq) l))⟩
    | _ => exact p.elim

/-! ### for -/
/-- the turns of a loop -/
def forL (a : AS) (g : G) : List D → G
  | [], s => .nx s
  | d :: ds, s => match a d s with
    | none => .no
    | some s1 => match g s1 with
      | .nx s2 => forL a g ds s2
      | .ct s2 => forL a g ds s2
      | .bk s2 => .nx s2
      | .rt d s2 => .rt d s2
      | .rn d s2 => .rn d s2
      | .er x s2 => .er x s2
      | .no => .no
def forG (f : F (List D)) (a : AS) (g : G) : G := fun s => (f s).out fun ds s1 => forL a g ds s1
theorem PostS.bindI {r : R (List D)} {g : List D → G} {E : Ends} {Q1 : It → Hp → Prop} (h : PostS B W M H (r.out g) E)
    (k : ∀ ds s1 M1 H1 J, SR B M1 σ H1 s1 → Wk B.K M1 H1 J ds → Ev M H M1 H1 → PostS B W M1 H1 (g ds s1) E → Q1 J H1) : PostI B W M H σ r Q1 := by
  cases r with
  | ok d s' => exact fun v H2 M2 a b c => k d s' M2 H2 v a b c (PostS.later h c)
  | er x s' => exact fun cls od H' M' a b => h cls od σ H' M' a b
  | no => exact h
theorem ss_for {tg iter : Expr} {body : List Stmt} {ks : List Nat} {a : AS} {gb : G} (hp : PassesOwn (model X.prog X.w) X.A X.env X.xe) (hc : X.calm = true) (hi : SI X B W tg iter k) (hg : SG X B ks tg a) (hb : SSs X B W body gb)
    (hs : ∀ x, foldedSetIterable iter X.env x = pure x := by intro _; rfl) : SS X B W (.For tg iter body [] pos) (forG k a gb) := by
  refine PS.imp (ps_for hp hc hi hg hb hs) fun E σ H ⟨M, s, r, p⟩ => ⟨M, s, r, PostS.bindI p fun ds s1 M1 H1 J r1 wk ev1 p1 => ?_⟩
  refine ⟨fun i m σ' H' => m = ds.length - i ∧ i ≤ ds.length ∧ ∃ M' s', SR B M' σ' H' s' ∧ Ev M1 H1 M' H' ∧ PostS B W M' H' (forL a gb (ds.drop i) s') E, ⟨ds.length, rfl, Nat.zero_le _, M1, s1, r1, .rfl, p1⟩, ?_⟩
  rintro i m σ2 H2 ⟨rfl, hi, M2, s2, r2, ev2, p2⟩
  by_cases hlt : i < ds.length
  · obtain ⟨d, hd⟩ : ∃ d, ds[i]? = some d := ⟨ds[i], List.getElem?_eq_getElem hlt⟩
    have hdr : ds.drop i = d :: ds.drop (i + 1) := by
      rw [List.drop_eq_getElem_cons hlt]
      rw [List.getElem?_eq_getElem hlt] at hd
      cases hd
      rfl
    rw [hdr] at p2
    obtain ⟨hgo, hy⟩ := wk.go i d M2 H2 r2.mo ev2 hd
    refine .inr ⟨hgo, fun σ' H' => ∃ M' s', SR B M' σ' H' s' ∧ Ev M1 H1 M' H' ∧ PostS B W M' H' (forL a gb (ds.drop (i + 1)) s') E, fun σ' H' q => ⟨ds.length - (i + 1), by omega, rfl, hlt, q⟩, fun x H3 y => ?_⟩
    obtain ⟨sm, qx⟩ := hy x H3 y
    refine ⟨M2, s2, d, r2.grow sm, qx, ?_⟩
    unfold forL at p2
    revert p2
    cases a d s2 with
    | none => exact fun p2 => p2
    | some s3 =>
      intro p2 σ4 H4 M4 r4 ev4 _
      have ev24 : Ev M2 H2 M4 H4 := (Ev.same sm).trans ev4
      refine ⟨M4, s3, r4, ?_⟩
      have p2' := PostS.later p2 ev24
      dsimp only at p2'
      revert p2'
      cases gb s3 with
      | nx s5 => exact fun p2 σ5 H5 M5 r5 ev5 => ⟨M5, s5, r5, (ev2.trans ev24).trans ev5, PostS.later p2 ev5⟩
      | ct s5 => exact fun p2 σ5 H5 M5 r5 ev5 => ⟨M5, s5, r5, (ev2.trans ev24).trans ev5, PostS.later p2 ev5⟩
      | bk s5 => exact fun p2 => p2
      | rt d s5 => exact fun p2 => p2
      | rn d s5 => exact fun p2 => p2
      | er x s5 => exact fun p2 => p2
      | no => exact fun p2 => p2
  · have e : i = ds.length := by omega
    subst e
    rw [List.drop_length] at p2
    exact .inl ⟨wk.stop M2 H2 r2.mo ev2, p2 σ2 H2 M2 r2 .rfl⟩

/-! ### while -/
def whileL (u : F Bool) (g : G) : Nat → G
  | 0, _ => .no
  | n + 1, s => (u s).out fun b s1 => if b = true then match g s1 with
      | .nx s2 => whileL u g n s2
      | .ct s2 => whileL u g n s2
      | .bk s2 => .nx s2
      | .rt d s2 => .rt d s2
      | .rn d s2 => .rn d s2
      | .er x s2 => .er x s2
      | .no => .no
    else .nx s1
/-- n: as many turns as one likes -/
theorem ss_while (n : Nat) {c : Expr} {body : List Stmt} {u : F Bool} {gb : G} (hp : PassesOwn (model X.prog X.w) X.A X.env X.xe) (hc : ST X B W c u) (hb : SSs X B W body gb) : SS X B W (.While c body [] pos) (whileL u gb n) := by
  refine PS.imp (ps_while hp hc hb) fun E σ H ⟨M, s, r, p⟩ => ?_
  refine ⟨fun m σ' H' => ∃ M' s', SR B M' σ' H' s' ∧ PostS B W M' H' (whileL u gb m s') E, ⟨n, M, s, r, p⟩, ?_⟩
  rintro m σ2 H2 ⟨M2, s2, r2, p2⟩
  cases m with
  | zero => exact p2.elim
  | succ m =>
    unfold whileL at p2
    refine ⟨M2, s2, r2, PostS.bind p2 fun b s3 M3 H3 v r3 q3 ev3 p3 => ?_⟩
    have q3 : v = b := q3
    subst q3
    cases v with
    | false =>
      show E.nx σ2 H3
      exact p3 σ2 H3 M3 r3 .rfl
    | true =>
      refine ⟨fun σ' H' => ∃ M' s', SR B M' σ' H' s' ∧ PostS B W M' H' (whileL u gb m s') E, fun σ' H' q => ⟨m, Nat.lt_succ_self m, q⟩, M3, s3, r3, ?_⟩
      rw [if_pos rfl] at p3
      revert p3
      cases gb s3 with
      | nx s5 => exact fun p2 σ5 H5 M5 r5 ev5 => ⟨M5, s5, r5, PostS.later p2 ev5⟩
      | ct s5 => exact fun p2 σ5 H5 M5 r5 ev5 => ⟨M5, s5, r5, PostS.later p2 ev5⟩
      | bk s5 => exact fun p2 => p2
      | rt d s5 => exact fun p2 => p2
      | rn d s5 => exact fun p2 => p2
      | er x s5 => exact fun p2 => p2
      | no => exact fun p2 => p2
end
end Fx

set_option Elab.async false
set_option linter.all false
set_option maxRecDepth 100000
namespace Fx
open PySem L2
/-! ### comprehensions -/
def wipeS (s : List Sl) : List Nat → List Sl
  | [] => s
  | v :: vs => (wipeS s vs).set v .un
def restS (s1 s3 : List Sl) : List Nat → List Sl
  | [] => s3
  | v :: vs => (restS s1 s3 vs).set v (s1.getD v .un)
theorem wipeS_length (s : List Sl) : ∀ vs, (wipeS s vs).length = s.length
  | [] => rfl
  | v :: vs => by unfold wipeS; rw [List.length_set, wipeS_length s vs]
theorem restS_length (s1 s3 : List Sl) : ∀ vs, (restS s1 s3 vs).length = s3.length
  | [] => rfl
  | v :: vs => by unfold restS; rw [List.length_set, restS_length s1 s3 vs]
theorem wipeS_get (s : List Sl) (i : Nat) : ∀ vs, (wipeS s vs)[i]? = if i ∈ vs then (if i < s.length then some .un else none) else s[i]?
  | [] => by simp [wipeS]
  | v :: vs => by
    unfold wipeS
    by_cases e : v = i
    · subst e
      rw [if_pos List.mem_cons_self]
      by_cases h : v < s.length
      · rw [List.getElem?_set_self (by rw [wipeS_length]; exact h), if_pos h]
      · rw [if_neg h]
        exact List.getElem?_eq_none (by rw [List.length_set, wipeS_length]; omega)
    · rw [List.getElem?_set_ne e, wipeS_get s i vs]
      have : (i ∈ v :: vs) = (i ∈ vs) := by simp [Ne.symm e]
      simp only [this]
theorem wipe_get (σ : L2.St) (i : Nat) : ∀ vs, (wipe σ vs)[i]? = if i ∈ vs then (if i < σ.length then some none else none) else σ[i]?
  | [] => by simp [wipe]
  | v :: vs => by
    unfold wipe
    by_cases e : v = i
    · subst e
      rw [if_pos List.mem_cons_self]
      by_cases h : v < σ.length
      · rw [List.getElem?_set_self (by rw [wipe_length]; exact h), if_pos h]
      · rw [if_neg h]
        exact List.getElem?_eq_none (by rw [List.length_set, wipe_length]; omega)
    · rw [List.getElem?_set_ne e, wipe_get σ i vs]
      have : (i ∈ v :: vs) = (i ∈ vs) := by simp [Ne.symm e]
      simp only [this]
theorem restS_get (s1 s3 : List Sl) (i : Nat) : ∀ vs, (restS s1 s3 vs)[i]? = if i ∈ vs then (if i < s3.length then some (s1.getD i .un) else none) else s3[i]?
  | [] => by simp [restS]
  | v :: vs => by
    unfold restS
    by_cases e : v = i
    · subst e
      rw [if_pos List.mem_cons_self]
      by_cases h : v < s3.length
      · rw [List.getElem?_set_self (by rw [restS_length]; exact h), if_pos h]
      · rw [if_neg h]
        exact List.getElem?_eq_none (by rw [List.length_set, restS_length]; omega)
    · rw [List.getElem?_set_ne e, restS_get s1 s3 i vs]
      have : (i ∈ v :: vs) = (i ∈ vs) := by simp [Ne.symm e]
      simp only [this]
theorem wipe_eq {σ σ' : L2.St} {vs : List Nat} (hl : σ'.length = σ.length) (h : ∀ i, i ∉ vs → σ'[i]? = σ[i]?) : wipe σ' vs = wipe σ vs := by
  refine List.ext_getElem? fun i => ?_
  rw [wipe_get, wipe_get, hl]
  by_cases hi : i ∈ vs
  · rw [if_pos hi, if_pos hi]
  · rw [if_neg hi, if_neg hi]
    exact h i hi
theorem wipe_wipe {σ : L2.St} {vs : List Nat} : wipe (wipe σ vs) vs = wipe σ vs := wipe_eq (wipe_length σ vs) fun i hi => by rw [wipe_get, if_neg hi]
def okC (s : List Sl) (v : Nat) : Bool := match s[v]? with
  | some (.ow _) => false
  | some (.io _) => false
  | _ => true
section
variable {B : Bs} {M M' : MS} {σ : L2.St} {H H' : Hp} {s s1 s3 : List Sl}
theorem SR.wiped {vs : List Nat} (r : SR B M σ H s) (h : ∀ v ∈ vs, ∀ ds : List D, s[v]? ≠ some (.io ds)) : SR B M (wipe σ vs) H (wipeS s vs) := by
  have up : ∀ {i : Nat} {x : Sl}, (wipeS s vs)[i]? = some x → x ≠ .un → i ∉ vs ∧ s[i]? = some x := fun {i x} e n => by
    rw [wipeS_get] at e
    by_cases hi : i ∈ vs
    · rw [if_pos hi] at e
      split at e
      · cases e
        exact absurd rfl n
      · cases e
    · rw [if_neg hi] at e
      exact ⟨hi, e⟩
  have dw : ∀ {i : Nat}, i ∉ vs → (wipe σ vs)[i]? = σ[i]? := fun {i} hi => by rw [wipe_get, if_neg hi]
  exact {
    va := fun i d e => by
      obtain ⟨hi, e⟩ := up e (by intro z; cases z)
      rw [dw hi]
      exact r.va i d e
    ow := fun i d e => by
      obtain ⟨hi, e⟩ := up e (by intro z; cases z)
      rw [dw hi]
      exact r.ow i d e
    io := fun i d e => by
      obtain ⟨hi, e⟩ := up e (by intro z; cases z)
      have q := r.io i d e
      rw [q.1] at hi
      rw [dw hi]
      exact q
    pa := fun a ha => by
      obtain ⟨h1, ds, h2⟩ := r.pa a ha
      refine ⟨h1, ds, ?_⟩
      have n0 : 0 ∉ vs := fun z => h 0 z ds h2
      rw [wipeS_get, if_neg n0]
      exact h2
    ne := fun i j ds es a n h1 h2 h3 h4 => by
      obtain ⟨hi, e1⟩ := up h1 (by intro z; cases z)
      obtain ⟨hj, e2⟩ := up h2 (by intro z; cases z)
      rw [dw hi] at h3
      rw [dw hj] at h4
      exact r.ne i j ds es a n e1 e2 h3 h4
    mo := r.mo
    up := r.up
    dn := r.dn
    st := r.st
    bm := r.bm
    lk := fun b o e => by
      obtain ⟨h1, h2, h3⟩ := r.lk b o e
      refine ⟨h1, h2, fun ⟨j, ds, h4, h5⟩ => h3 ?_⟩
      rcases h4 with h4 | h4
      · obtain ⟨hj, e2⟩ := up h4 (by intro z; cases z)
        rw [dw hj] at h5
        exact ⟨j, ds, .inl e2, h5⟩
      · obtain ⟨hj, e2⟩ := up h4 (by intro z; cases z)
        rw [dw hj] at h5
        exact ⟨j, ds, .inr e2, h5⟩
    len := by rw [wipeS_length, wipe_length]; exact r.len }
theorem SR.restore {vs : List Nat} (r1 : SR B M σ H s1) (r : SR B M' (wipe σ vs) H' (wipeS s3 vs)) (ev : Ev M H M' H') (h : ∀ v ∈ vs, okC s1 v = true) : SR B M' σ H' (restS s1 s3 vs) := by
  have l3 : s3.length = σ.length := by
    have := r.len
    rw [wipeS_length, wipe_length] at this
    exact this
  have old : ∀ {i : Nat} {x : Sl}, i ∈ vs → (restS s1 s3 vs)[i]? = some x → s1[i]? = some x := fun {i x} hi e => by
    rw [restS_get, if_pos hi] at e
    split at e
    · rename_i hl
      cases e
      have : i < s1.length := by rw [r1.len, ← l3]; exact hl
      rw [List.getD_eq_getElem?_getD, List.getElem?_eq_getElem this]
      rfl
    · cases e
  have new : ∀ {i : Nat} {x : Sl}, i ∉ vs → (restS s1 s3 vs)[i]? = some x → (wipeS s3 vs)[i]? = some x := fun {i x} hi e => by
    rw [restS_get, if_neg hi] at e
    rw [wipeS_get, if_neg hi]
    exact e
  have dw : ∀ {i : Nat}, i ∉ vs → (wipe σ vs)[i]? = σ[i]? := fun {i} hi => by rw [wipe_get, if_neg hi]
  have noOw : ∀ {i : Nat} {ds : List D}, (restS s1 s3 vs)[i]? = some (.ow ds) ∨ (restS s1 s3 vs)[i]? = some (.io ds) → i ∉ vs := fun {i ds} e hi => by
    have q := h i hi
    unfold okC at q
    rcases e with e | e
    · rw [old hi e] at q
      cases q
    · rw [old hi e] at q
      cases q
  exact {
    va := fun i d e => by
      by_cases hi : i ∈ vs
      · obtain ⟨v, e1, q⟩ := r1.va i d (old hi e)
        exact ⟨v, e1, q.move r1.mo ev⟩
      · rw [← dw hi]
        exact r.va i d (new hi e)
    ow := fun i d e => by
      have hi := noOw (.inl e)
      rw [← dw hi]
      exact r.ow i d (new hi e)
    io := fun i d e => by
      have hi := noOw (.inr e)
      have q := r.io i d (new hi e)
      rw [q.1] at hi
      rw [← dw hi]
      exact q
    pa := fun a ha => by
      obtain ⟨h1, ds, h2⟩ := r.pa a ha
      refine ⟨h1, ds, ?_⟩
      rw [wipeS_get] at h2
      by_cases hi : 0 ∈ vs
      · rw [if_pos hi] at h2
        split at h2 <;> cases h2
      · rw [if_neg hi] at h2
        rw [restS_get, if_neg hi]
        exact h2
    ne := fun i j ds es a n h1 h2 h3 h4 => by
      have hi := noOw (.inl h1)
      have hj := noOw (.inl h2)
      exact r.ne i j ds es a n (new hi h1) (new hj h2) (by rw [dw hi]; exact h3) (by rw [dw hj]; exact h4)
    mo := r.mo
    up := r.up
    dn := r.dn
    st := r.st
    bm := r.bm
    lk := fun b o e => by
      obtain ⟨h1, h2, h3⟩ := r.lk b o e
      refine ⟨h1, h2, fun ⟨j, ds, h4, h5⟩ => h3 ?_⟩
      have hj := noOw h4
      exact ⟨j, ds, h4.imp (new hj) (new hj), by rw [dw hj]; exact h5⟩
    len := by rw [restS_length]; exact l3 }
/-- an owned object that is in no slot is locked, is changed, is let go -/
def Bs.lock (B : Bs) (p : Addr) (o : HO) : Bs := { B with L := fun b => if b = p then some o else B.L b }
theorem SR.locked {p : Addr} {o : HO} (r : SR B M σ H s) (hp : H p = some o) (hm : M p) (hn : ¬ Own σ s p) : SR (B.lock p o) M σ H s where
  va := r.va
  ow := r.ow
  io := r.io
  pa := r.pa
  ne := r.ne
  mo := r.mo
  up := r.up
  dn := r.dn
  st := r.st
  bm := r.bm
  lk := fun b u e => by
    by_cases hb : b = p
    · subst hb
      have e : (if b = b then some o else B.L b) = some u := e
      rw [if_pos rfl] at e
      cases e
      exact ⟨hm, hp, hn⟩
    · have e : (if b = p then some o else B.L b) = some u := e
      rw [if_neg hb] at e
      exact r.lk b u e
  len := r.len
theorem SR.relock {p : Addr} {xs ys : List V} (r : SR (B.lock p (.lst xs)) M σ H s) (h0 : B.H0 p = none) : SR (B.lock p (.lst ys)) M σ (upd H p (.lst ys)) s ∧ Ev M H M (upd H p (.lst ys)) := by
  obtain ⟨hm, hp, hn⟩ := r.lk p (.lst xs) (show (if p = p then some (HO.lst xs) else B.L p) = some (.lst xs) by rw [if_pos rfl])
  have st : Step (fun b => b = p) H (upd H p (.lst ys)) := fun b u e n => by rw [upd_ne n]; exact e
  have ev : Ev M H M (upd H p (.lst ys)) := ⟨fun _ z => .inl z, fun b u e n => st b u e fun z => n (z ▸ hm)⟩
  have npa : B.pa ≠ some p := fun z => r.bm.there h0 (r.pa p z).1
  refine ⟨?_, ev⟩
  exact {
    va := fun i d e => let ⟨v, e1, q⟩ := r.va i d e; ⟨v, e1, q.move r.mo ev⟩
    ow := fun i d e => by
      obtain ⟨a, zs, e1, q, m, n, l⟩ := r.ow i d e
      have ne : a ≠ p := fun z => hn ⟨i, d, .inl e, z ▸ e1⟩
      exact ⟨a, zs, e1, st _ _ q ne, m, n, l.move r.mo ev⟩
    io := fun i d e => by
      obtain ⟨z, a, zs, p2, e1, q, m, l⟩ := r.io i d e
      have ne : a ≠ p := fun z => npa (z ▸ p2)
      exact ⟨z, a, zs, p2, e1, st _ _ q ne, m, l.move r.mo ev⟩
    pa := r.pa
    ne := r.ne
    mo := fun b z => by
      by_cases hb : b = p
      · subst hb; rw [upd_same]; exact trivial
      · rw [upd_ne hb]; exact r.mo b z
    up := r.up
    dn := r.dn
    st := fun b u e n => st b u (r.st b u e n) fun z => by
      subst z
      have e : B.H0 b = some u := e
      rw [h0] at e
      cases e
    bm := r.bm
    lk := fun b u e => by
      by_cases hb : b = p
      · subst hb
        have e : (if b = b then some (HO.lst ys) else B.L b) = some u := e
        rw [if_pos rfl] at e
        cases e
        exact ⟨hm, upd_same, hn⟩
      · have e : (if b = p then some (HO.lst ys) else B.L b) = some u := e
        rw [if_neg hb] at e
        obtain ⟨h1, h2, h3⟩ := r.lk b u (show (if b = p then some (HO.lst xs) else B.L b) = some u by rw [if_neg hb]; exact e)
        exact ⟨h1, by rw [upd_ne hb]; exact h2, h3⟩
    len := r.len }
theorem SR.unlock {p : Addr} {o : HO} (r : SR (B.lock p o) M σ H s) (hL : B.L p = none) : SR B M σ H s where
  va := r.va
  ow := r.ow
  io := r.io
  pa := r.pa
  ne := r.ne
  mo := r.mo
  up := r.up
  dn := r.dn
  st := r.st
  bm := r.bm
  lk := fun b u e => r.lk b u (show (if b = p then some o else B.L b) = some u by
    by_cases hb : b = p
    · subst hb; rw [hL] at e; cases e
    · rw [if_neg hb]; exact e)
  len := r.len
end
abbrev W0 : WX := fun _ _ _ _ => False
/-- the turns of a comprehension -/
def compL (vs : List Nat) (a : AS) (u : F Bool) (f : F D) : List D → F (List D)
  | [], s => .ok [] s
  | d :: ds, s => match a d (wipeS s vs) with
    | none => .no
    | some s1 => match u s1 with
      | .ok true s2 => match f s2 with
        | .ok y s3 => match compL vs a u f ds s3 with
          | .ok ys s4 => .ok (y :: ys) s4
          | _ => .no
        | _ => .no
      | .ok false s2 => compL vs a u f ds s2
      | _ => .no
def compN (kI : F (List D)) (vs : List Nat) (a : AS) (u : F Bool) (f : F D) : F (List D) := fun s => (kI s).bind fun ds s1 =>
  if ds.length < sizeLine ∧ vs.all (okC s1) = true then match compL vs a u f ds s1 with
    | .ok ys s2 => .ok ys (restS s1 s2 vs)
    | _ => .no
  else .no
theorem compL_len {vs : List Nat} {a : AS} {u : F Bool} {f : F D} : ∀ {ds : List D} {s s' : List Sl} {ys : List D}, compL vs a u f ds s = .ok ys s' → ys.length ≤ ds.length
  | [], _, _, _, h => by unfold compL at h; cases h; exact Nat.le_refl _
  | d :: ds, s, s', ys, h => by
    unfold compL at h
    split at h
    · cases h
    · split at h
      · split at h
        · split at h
          · rename_i e
            cases h
            exact Nat.succ_le_succ (compL_len e)
          · cases h
        · cases h
      · exact Nat.le_succ_of_le (compL_len h)
      · cases h
section
variable {X : Cx} {B : Bs} {W : WX}
theorem PG.ex {tg : Expr} {I : Type} {P : I → Prop} {t : I → TG} (h : ∀ i, P i → PG X tg (t i)) : PG X tg (fun v σ H Q => ∃ i, P i ∧ t i v σ H Q) := ⟨fun pins s σ H v w Q I r ⟨i, hi, q⟩ => (h i hi).run pins s σ H v w Q I r q⟩
theorem PTs.ex {ifs : List Expr} {I : Type} {P : I → Prop} {t : I → TT} (h : ∀ i, P i → PTs X ifs (t i)) : PTs X ifs (fun σ H Q => ∃ i, P i ∧ t i σ H Q) := ⟨fun pins s σ H Q I ⟨i, hi, q⟩ => (h i hi).run pins s σ H Q I q⟩
theorem PE.ex {e : Expr} {I : Type} {P : I → Prop} {t : I → TE} (h : ∀ i, P i → PE X e (t i)) : PE X e (fun σ H Q => ∃ i, P i ∧ t i σ H Q) := ⟨fun pins s σ H Q I ⟨i, hi, q⟩ => (h i hi).run pins s σ H Q I q⟩
def STs (X : Cx) (B : Bs) (W : WX) (ifs : List Expr) (u : F Bool) : Prop := PTs X ifs (tP B W rhoB u)
def yesT : F Bool := fun s => .ok true s
theorem sts_nil : STs X B W [] yesT := ⟨fun pins s σ H Q I ⟨M, s', r, p⟩ => pts_nil.run pins s σ H Q I (p.out r rfl)⟩
theorem sts_one {c : Expr} {u : F Bool} (h : ST X B W c u) : STs X B W [c] u := pts_one h
/-- the reading of a comprehension -/
theorem lc_read {kI : F (List D)} {vs ks : List Nat} {a : AS} {u : F Bool} {f : F D} {σ : L2.St} {H : Hp} {Q : VK} (hks : ∀ i ∈ ks, i ∈ vs) (h : tN B W (compN kI vs a u f) σ H Q) :
    tLc (tI B W kI) (fun v σ H Q => ∃ B' : Bs, B'.K = B.K ∧ tA B' ks a v σ H Q) (fun σ H Q => ∃ B' : Bs, B'.K = B.K ∧ tP B' W0 rhoB u σ H Q) (fun σ H Q => ∃ B' : Bs, B'.K = B.K ∧ tP B' W0 (rhoD B') f σ H Q) vs σ H Q := by
  obtain ⟨M, s, r, p⟩ := h
  refine ⟨M, s, r, ?_⟩
  unfold compN at p
  cases hk : kI s with
  | no => rw [hk] at p; exact p.elim
  | er x s1 => rw [hk] at p; exact p
  | ok ds s1 =>
    rw [hk, R.bind_ok] at p
    intro J H1 M1 r1 wk ev1 A hA
    split at p
    case isFalse => exact p.elim
    case isTrue hc =>
    obtain ⟨hz, hall⟩ := hc
    have hok : ∀ v ∈ vs, okC s1 v = true := fun v hv => List.all_eq_true.mp hall v hv
    split at p
    case h_2 => exact p.elim
    case h_1 tot sfin htot =>
    have notIo : ∀ {M' : MS} {σ' : L2.St} {H' : Hp} {s' : List Sl} {B' : Bs}, B'.pa = B.pa → SR B' M' σ' H' s' → ∀ v ∈ vs, ∀ ds : List D, s'[v]? ≠ some (.io ds) := fun {M' σ' H' s' B'} hp r' v hv ds e => by
      obtain ⟨z, a', _, h1, _⟩ := r'.io v ds e
      subst z
      obtain ⟨_, es, h2⟩ := r1.pa a' (hp ▸ h1)
      have q := hok 0 hv
      unfold okC at q
      rw [h2] at q
      cases q
    obtain ⟨rA, oA⟩ := r1.newOwned (ds := []) hA RpL.nil
    obtain ⟨xs0, hx0, hm0, h00, hl0, hL0, hno0⟩ := oA
    have evA : Ev M1 H1 (With M1 A) (upd H1 A (.lst [])) := ⟨fun c z => z.elim .inl fun z => .inr (z ▸ hA), .same (same_upd hA)⟩
    rw [upd_same] at hx0
    cases hx0
    have ownA : ∀ {M' : MS} {σ' : L2.St} {H' : Hp} {s' : List Sl}, SR B M' σ' H' s' → (∀ (j : Nat) (es : List D), s'[j]? = some (.ow es) → σ'[j]? ≠ some (some (.ref A))) → ¬ Own σ' s' A := fun {M' σ' H' s'} r' hn ⟨j, es, h1, h2⟩ => by
      rcases h1 with h1 | h1
      · exact hn j es h1 h2
      · obtain ⟨z, a', _, h3, h4, _⟩ := r'.io j es h1
        subst z
        rw [h2] at h4
        cases h4
        exact r'.bm.there h00 (r'.pa _ h3).1
    have rW := (rA.locked upd_same hm0 (ownA rA hno0)).wiped (vs := vs) (notIo rfl r1)
    refine ⟨fun i m H' => m = ds.length - i ∧ i ≤ ds.length ∧ ∃ M' s' acc accd ys, SR (B.lock A (.lst acc)) M' (wipe σ vs) H' (wipeS s' vs) ∧ Ev (With M1 A) (upd H1 A (.lst [])) M' H' ∧ RpL B.K M' H' acc accd ∧ accd.length ≤ i ∧ compL vs a u f (ds.drop i) s' = .ok ys sfin ∧ tot = accd ++ ys,
      ⟨ds.length, rfl, Nat.zero_le _, With M1 A, s1, [], [], tot, rW, .rfl, .nil, Nat.le_refl _, htot, rfl⟩, ?_⟩
    rintro i m H2 ⟨rfl, hi, M2, s2, acc, accd, ys, r2, ev2, q2, hz2, hL, htot2⟩
    have lockA : ∀ {l : List V}, (B.lock A (.lst l)).L A = some (.lst l) := fun {l} => if_pos rfl
    by_cases hlt : i < ds.length
    · obtain ⟨d, hd⟩ : ∃ d, ds[i]? = some d := ⟨ds[i], List.getElem?_eq_getElem hlt⟩
      have hdr : ds.drop i = d :: ds.drop (i + 1) := by
        rw [List.drop_eq_getElem_cons hlt]
        rw [List.getElem?_eq_getElem hlt] at hd
        cases hd
        rfl
      obtain ⟨hgo, hy⟩ := wk.go i d M2 H2 r2.mo (evA.trans ev2) hd
      refine .inr ⟨hgo, fun H' => ∃ M' s' acc accd ys, SR (B.lock A (.lst acc)) M' (wipe σ vs) H' (wipeS s' vs) ∧ Ev (With M1 A) (upd H1 A (.lst [])) M' H' ∧ RpL B.K M' H' acc accd ∧ accd.length ≤ i + 1 ∧ compL vs a u f (ds.drop (i + 1)) s' = .ok ys sfin ∧ tot = accd ++ ys,
        fun H' q => ⟨ds.length - (i + 1), by omega, rfl, hlt, q⟩, fun x H3 y => ?_⟩
      obtain ⟨sm, qx⟩ := hy x H3 y
      rw [hdr] at hL
      unfold compL at hL
      split at hL
      case h_1 => cases hL
      case h_2 s3 ha =>
      refine ⟨B.lock A (.lst acc), rfl, M2, wipeS s2 vs, d, r2.grow sm, qx, ?_⟩
      rw [ha]
      intro σ4 H4 M4 r4 ev4 o4
      have ev24 := (Ev.same (M := M2) sm).trans ev4
      have hw : wipe σ4 vs = wipe σ vs := by
        have := wipe_eq (vs := vs) o4.1 fun j hj => o4.2 j fun z => hj (hks j z)
        rw [this, wipe_wipe]
      refine ⟨hw, B.lock A (.lst acc), rfl, M4, s3, r4, ?_⟩
      have again : ∀ {M' : MS} {H' : Hp} {s' : List Sl} {l : List V}, SR (B.lock A (.lst l)) M' σ4 H' s' → SR (B.lock A (.lst l)) M' (wipe σ vs) H' (wipeS s' vs) := fun {M' H' s' l} r' => by
        have := r'.wiped (vs := vs) (notIo (B' := B.lock A (.lst l)) rfl r')
        rw [hw] at this
        exact this
      cases hu : u s3 with
      | no => rw [hu] at hL; cases hL
      | er x s5 => rw [hu] at hL; cases hL
      | ok b s5 =>
        rw [hu] at hL
        intro b' H5 M5 r5 hb ev5
        have hb : b' = b := hb
        subst hb
        cases b' with
        | false =>
          show ∃ M' s' acc accd ys, _
          exact ⟨M5, s5, acc, accd, ys, again r5, (ev2.trans ev24).trans ev5, (q2.move r2.mo ev24).move r4.mo ev5, Nat.le_succ_of_le hz2, hL, htot2⟩
        | true =>
          dsimp only at hL
          rw [if_pos rfl]
          refine ⟨B.lock A (.lst acc), rfl, M5, s5, r5, ?_⟩
          cases hf : f s5 with
          | no => rw [hf] at hL; cases hL
          | er x s6 => rw [hf] at hL; cases hL
          | ok y s6 =>
            rw [hf] at hL
            dsimp only at hL
            split at hL
            case h_2 => cases hL
            case h_1 ys' s7 hys =>
            cases hL
            intro v H6 M6 r6 q6 ev6
            have eall := ev24.trans (ev5.trans ev6)
            have q6' : RpL B.K M6 H6 acc accd := q2.move r2.mo eall
            obtain ⟨r7, ev7⟩ := r6.relock (ys := acc ++ [v]) h00
            refine ⟨acc, (r6.lk A _ lockA).2.1, ?_, M6, s6, acc ++ [v], accd ++ [y], ys', again r7, ((ev2.trans eall).trans ev7), (q6'.move r6.mo ev7).snoc (Rp.move r6.mo ev7 q6), ?_, hys, ?_⟩
            · rw [q2.length]
              exact Nat.lt_of_le_of_lt (Nat.le_trans hz2 hi) hz
            · rw [List.length_append]
              exact Nat.succ_le_succ hz2
            · rw [htot2, List.append_assoc]
              rfl
    · have e : i = ds.length := by omega
      subst e
      rw [List.drop_length] at hL
      unfold compL at hL
      cases hL
      rw [List.append_nil] at htot2
      subst htot2
      refine .inl ⟨wk.stop M2 H2 r2.mo (evA.trans ev2), ?_⟩
      obtain ⟨hmA, hA2, hnA⟩ := r2.lk A _ lockA
      have rU := r2.unlock hL0
      have rF := r1.restore (s3 := sfin) rU (evA.trans ev2) hok
      refine p A H2 M2 rF ⟨acc, hA2, hmA, h00, q2, hL0, fun j es h z => ?_⟩ ((ev1.trans evA).trans ev2)
      by_cases hj : j ∈ vs
      · have q := hok j hj
        unfold okC at q
        rw [restS_get, if_pos hj] at h
        split at h
        · have hl1 : j < s1.length := by
            rename_i hl
            have := rU.len
            rw [wipeS_length, wipe_length] at this
            rw [r1.len, ← this]
            exact hl
          rw [List.getD_eq_getElem?_getD, List.getElem?_eq_getElem hl1] at h
          rw [List.getElem?_eq_getElem hl1] at q
          simp only [Option.getD_some, Option.some.injEq] at h
          rw [h] at q
          cases q
        · cases h
      · refine hnA ⟨j, es, .inl ?_, by rw [wipe_get, if_neg hj]; exact z⟩
        rw [restS_get, if_neg hj] at h
        rw [wipeS_get, if_neg hj]
        exact h
theorem sn_lc {elt tg iter : Expr} {ifs : List Expr} {scope : Scope} {own : List (Str × Nat)} {pos : Pos} {kI : F (List D)} {ks : List Nat} {a : AS} {u : F Bool} {f : F D} (hc : X.calm = true) (hN : X.N.Nodup) (hi : SI X B W tg iter kI) (ok : BlkOk X.N X.env.scope scope own)
    (hg : ∀ (s : Shared) (H : Hp) (C : Addr) (cl : List (Str × Addr)) (fp : List Addr) (B' : Bs), B'.K = B.K → SG (X.blk s H scope (compEnvC scope cl C X.env) fp) B' ks tg a)
    (ht : ∀ (s : Shared) (H : Hp) (C : Addr) (cl : List (Str × Addr)) (fp : List Addr) (B' : Bs), B'.K = B.K → STs (X.blk s H scope (compEnvC scope cl C X.env) fp) B' W0 ifs u)
    (he : ∀ (s : Shared) (H : Hp) (C : Addr) (cl : List (Str × Addr)) (fp : List Addr) (B' : Bs), B'.K = B.K → SE (X.blk s H scope (compEnvC scope cl C X.env) fp) B' W0 elt f)
    (hks : ∀ i ∈ ks, i ∈ own.map (·.2)) (hs : ∀ x, foldedSetIterable iter X.env x = pure x := by intro _; rfl) : SN X B W (.ListComp elt [⟨tg, iter, ifs, 0⟩] scope pos) (compN kI (own.map (·.2)) a u f) :=
  PE.imp (pe_lc hc hN hi ok (fun s H C cl fp => PG.ex (hg s H C cl fp)) (fun s H C cl fp => PTs.ex (ht s H C cl fp)) (fun s H C cl fp => PE.ex (he s H C cl fp)) hs) fun σ H Q p => lc_read hks p
/-- name = [..] -/
theorem ss_setLc {i : Nat} {y : Str} {py : Pos} {elt tg iter : Expr} {ifs : List Expr} {scope : Scope} {own : List (Str × Nat)} {pos spos : Pos} {kI : F (List D)} {ks : List Nat} {a : AS} {u : F Bool} {f : F D} (hc : X.calm = true) (hN : X.N.Nodup) (hy : X.N[i]? = some y) (hyl : X.env.scope.names.lookup y = some .local)
    (hsw : swapsWith (.ListComp elt [⟨tg, iter, ifs, 0⟩] scope pos) (some (.Name y py)) spos.line X.env = pure true) (hi : SI X B W tg iter kI) (ok : BlkOk X.N X.env.scope scope own)
    (hg : ∀ (s : Shared) (H : Hp) (C : Addr) (cl : List (Str × Addr)) (fp : List Addr) (B' : Bs), B'.K = B.K → SG (X.blk s H scope (compEnvC scope cl C X.env) fp) B' ks tg a)
    (ht : ∀ (s : Shared) (H : Hp) (C : Addr) (cl : List (Str × Addr)) (fp : List Addr) (B' : Bs), B'.K = B.K → STs (X.blk s H scope (compEnvC scope cl C X.env) fp) B' W0 ifs u)
    (he : ∀ (s : Shared) (H : Hp) (C : Addr) (cl : List (Str × Addr)) (fp : List Addr) (B' : Bs), B'.K = B.K → SE (X.blk s H scope (compEnvC scope cl C X.env) fp) B' W0 elt f)
    (hks : ∀ i ∈ ks, i ∈ own.map (·.2)) (hs : ∀ x, foldedSetIterable iter X.env x = pure x := by intro _; rfl) : SS X B W (.Assign [.Name y py] (.ListComp elt [⟨tg, iter, ifs, 0⟩] scope pos) spos) (setNG i (compN kI (own.map (·.2)) a u f)) :=
  PS.imp (ps_setLc hc hN hy hyl hsw hi ok (fun s H C cl fp => PG.ex (hg s H C cl fp)) (fun s H C cl fp => PTs.ex (ht s H C cl fp)) (fun s H C cl fp => PE.ex (he s H C cl fp)) hs) fun E σ H ⟨M, s, r, p⟩ =>
    lc_read hks ⟨M, s, r, PostS.bindN p fun d s1 M1 H1 v r1 q1 ev1 p1 => setN_run r1 q1 p1⟩
end
end Fx

set_option Elab.async false
set_option linter.all false
set_option maxRecDepth 100000
namespace Fx
open PySem L2 PyProof.Rows
/-- a def's promise, called while nothing is being shown -/
structure FnG (P : Program) (w : World) (K : PySem.W.Frag) (mg : Str → Option Value) (base : Heap) (k : Nat) (f : Addr) (fd : FuncData) (ps : List Str) (sp : Sp) : Prop where
  len : ∀ vs H Q E, sp vs H Q E → vs.length = ps.length
  run : ∀ (A : Around) (outer : List Env) (s : Shared) (H : Hp) (args : Args) (us : List Value) (vs : List V) (Q : VK) (E : XK), Room k A → A.guards = some [] → Env0 P w K mg base A outer s H → BindsTo s fd args (ps.zip us) → Vals vs us → sp vs H Q E →
    codeAny (model P w) A (.call (.ref f) args) (CR (L2.CX P w) outer P w H s Q E) s
section
variable {P : Program} {w : World} {K : PySem.W.Frag} {mg : Str → Option Value} {base : Heap}
theorem FnG.of {k : Nat} {f : Addr} {name qual : Str} {params : Arguments} {body : List Stmt} {sc : Scope} {dV kV doc pm cdv ct oc : Value} {an od : Option Addr} {osl : Array (Option Value)} {N ps : List Str} {sp : Sp}
    (lk : K.lookup f = some ⟨oc, od, .func (PySem.W.fnOf name qual params body sc dV kV doc pm an cdv ct), osl⟩) (hcd : PySem.W.codeIn K cdv qual = true) (S : FnScope N ps sc) (len : ∀ vs H Q E, sp vs H Q E → vs.length = ps.length)
    (hbody : ∀ (A : Around) (outer : List Env) (s : Shared) (H : Hp) (vs : List V) (Q : VK) (E : XK), Room k (A.deeper (envOfC qual sc s.heap.objs.size f cdv)) → A.guards = some [] → sp vs H Q E →
      ∃ t, PSs (cxOf (L2.CX P w) P w K mg base N qual sc f cdv A outer s H E) body t ∧ t { nx := fun _ H' => Q .non H', rt := Q } (L2.start N vs) H) :
    FnG P w K mg base (k + 1) f (PySem.W.fnOf name qual params body sc dV kV doc pm an cdv ct) ps sp := by
  constructor
  · exact len
  intro A outer s H args us vs Q E room quiet e0 binds r promise
  have kin : K.In s.heap := e0.mod.kin.keeps fun b o e => (e0.bs b o e).1
  have kinds : ∀ y ∈ ps.zip us, sc.names.lookup y.1 = some .local ∨ (sc.names.lookup y.1 = some .cell ∧ ((cellsFrom (s.heap.objs.size + 1) sc.names []).lookup y.1).isSome = true) := by
    rintro ⟨n, v⟩ hy
    exact (S.par n (List.of_mem_zip hy).1).imp id fun q => ⟨q, PySem.W.cellsFrom_some _ _ _ (.inl q)⟩
  obtain ⟨t, ht, hq⟩ := hbody A outer s H vs Q E (room.deeper _) quiet promise
  refine codeAny_call_function room.depth (kin _ _ lk) rfl S.co S.gen rfl (PySem.W.codeRec_of kin hcd) (binds _ _ _ _ (wpAny_newFunctionEnv_cells S.kind kinds ?_))
  rintro env rfl s1 x
  refine ⟨(e0.mod.nolimit.keeps fun b o e => (e0.bs b o e).1).keeps x.toInCall.keep, codeAny_func ?_⟩
  have I := inv_start (CX := L2.CX P w) (E := E) (A := A) (outer := outer) S room.hd e0 (len _ _ _ _ promise) r x
  refine wpAny_mono (ht.run [] s1 (L2.start N vs) H _ I hq) (fun fl s' hs => ?_) fun e s' hs => hs
  match fl, hs with
  | .ret u, ⟨v, _, H', J, rv, q⟩ => exact ⟨v, H', J.os, J.bare, J.base, J.hok, rv, q⟩
  | .next, ⟨_, H', J, q⟩ => exact ⟨.non, H', J.os, J.bare, J.base, J.hok, rfl, q⟩
  | .brk, ⟨_, _, _, q⟩ => exact q.elim
  | .cont, ⟨_, _, _, q⟩ => exact q.elim
end
/-- the end of a row: the law's own promise at a list of ints -/
theorem walkG {l : PySem.W.OpenLaw} {n k : Nat} {q : Program} {loose : List Str} {XP : (Str → Option Value) → Heap → Prop} {YP : World → Heap → Prop} {d : DefRec} {K : Params → PySem.W.Frag} {sp : PySem.W.Frag → Sp} {x : Str}
    (hn : l.most = some n) (hn2 : n ≤ sizeLine) (hdf : d.params.defaults = []) (hr : Room k callerA) (hY : ∀ (w : World) (h : Heap), YP w h → (K w.params).In h)
    (F : ∀ (w : World) (mg : Str → Option Value) (fa : Addr) (h : Heap), (K w.params).In h → h.Ns mainGlobals mg → mg d.name = some (.ref fa) →
      ∃ fd : FuncData, (∀ (s : Shared) (u : Value), BindsTo s fd ⟨[u], []⟩ [(x, u)]) ∧ ∀ base : Heap, (K w.params).In base → base.Ns mainGlobals mg → FnG l.prog w (K w.params) mg base k fa fd [x] (sp (K w.params)))
    (hsp : ∀ (K : PySem.W.Frag) (H : Hp) (a : Addr) (ns : List Int), ns.length ≤ n → (Rd H a (.lst (ns.map V.int)) ∨ ∀ H, SqL K H a (ns.map V.int)) → sp K [.ref a] H (fun v _ => v = .bl true) fun _ _ _ => False) :
    PySem.W.WalkO q loose XP YP l.row.toRowW d [] (fun f vs => PySem.call f vs) := by
  refine Att.attach_call hn hdf fun w s0 s1 mg mb fa o pm cd doc a vs ns G Y ho hd hcd hmg ha hi hlen hg => ?_
  have KX := hY w _ Y
  obtain ⟨fd, hbind, hF⟩ := F w mg fa _ KX G.T.g hmg
  -- the script is tracked as it stands, unless it is an object of the text's own
  let O : Obj := { cls := .type "list", data := .seq vs.toArray }
  let H : Hp := fun b => if b = a ∧ (K w.params).lookup a = none then some (.frz O (.lst (ns.map V.int))) else none
  have only : ∀ b u, H b = some u → b = a ∧ (K w.params).lookup a = none ∧ u = .frz O (.lst (ns.map V.int)) := fun b u e => by
    have e : (if b = a ∧ (K w.params).lookup a = none then some (HO.frz O (.lst (ns.map V.int))) else none) = some u := e
    split at e
    · rename_i h
      cases e
      exact ⟨h.1, h.2, rfl⟩
    · cases e
  have rv := vals_ints hi
  have hlen' : (ns.map V.int).length ≤ sizeLine := by rw [List.length_map]; exact Nat.le_trans hlen hn2
  have hok : HOk l.prog w H s1.heap := fun b u e => by
    obtain ⟨rfl, _, rfl⟩ := only b u e
    exact ⟨ha, hlen', vs, _, rv, ha⟩
  have free : ∀ {b : Addr} {ob : Obj}, s1.heap.get? b = some ob → ob ≠ O → H b = none := fun {b ob} e ne => by
    cases h : H b with
    | none => rfl
    | some u =>
      obtain ⟨rfl, _⟩ := only b u h
      rw [ha] at e
      exact absurd (Option.some.inj e).symm ne
  have ns' : ∀ {b : Addr} {m : Str → Option Value}, s1.heap.Ns b m → (hidT s1.heap H).Ns b m := fun {b m} ⟨ob, es, ep, e, dd, r⟩ => ⟨ob, es, ep, hidT_get e (free e fun z => by
    rw [z] at dd
    have dd : Data.seq vs.toArray _ = Data.dict es ep := dd
    cases dd), dd, r⟩
  have kb : (K w.params).In (hidT s1.heap H) := fun b ob e => hidT_get (KX b ob e) (by
    cases h : H b with
    | none => rfl
    | some u =>
      obtain ⟨rfl, hk, _⟩ := only b u h
      rw [hk] at e
      cases e)
  have hM : Mod (K w.params) mg (hidT s1.heap H) := ⟨kb, ns' G.T.g, ⟨mb, ns' G.T.b, G.T.builtins⟩, let ⟨mc, h1, h2⟩ := G.T.nolimit; ⟨mc, ns' h1, h2⟩⟩
  have e0 : Env0 l.prog w (K w.params) mg (hidT s1.heap H) callerA [] s1 H := ⟨rfl, hM, fun b ob e => of_hidT e, Nat.le_of_eq (hidT_size _ _), trivial, fun b hb => (by cases hb), hok, .of_eq hg⟩
  have start : Rd H a (.lst (ns.map V.int)) ∨ ∀ H, SqL (K w.params) H a (ns.map V.int) := by
    cases hk : (K w.params).lookup a with
    | none => exact .inl (.inr ⟨O, if_pos ⟨rfl, hk⟩⟩)
    | some ob =>
      have e := KX a ob hk
      rw [ha] at e
      cases e
      exact .inr fun _ => .inr ⟨_, vs.toArray, _, hk, rfl, rfl, rfl, by rw [List.size_toArray, hi.length]; exact Nat.le_trans hlen hn2, by simpa using rv⟩
  refine codeAny_mono ((hF _ kb (ns' G.T.g)).run callerA [] s1 H ⟨[.ref a], []⟩ [.ref a] [.ref a] _ _ hr rfl e0 (hbind s1 (.ref a)) (.cons rfl .nil) (hsp (K w.params) H a ns hlen start)) fun r s' h => ?_
  match r, h with
  | .error e, h =>
    obtain ⟨_, _, _, _, _, _, _, _, _, _, _, _, z⟩ := h
    exact z.elim
  | .ok (.ret u), ⟨v, H', os, bare, un, hok', r', e⟩ =>
    have e : v = .bl true := e
    subst e
    obtain rfl : u = Value.bool true := r'
    refine ⟨rfl, OldK.of_keep fun b ob e => ?_, os, bare⟩
    cases h : H b with
    | none => exact un.keep b ob e h (by intro z; cases z) (by intro z; cases z)
    | some u =>
      obtain ⟨rfl, _, rfl⟩ := only b u h
      obtain ⟨e2, _⟩ := hok' _ _ (un.frzs _ O _ h)
      rw [ha] at e
      cases e
      exact e2
end Fx

set_option Elab.async false
set_option linter.all false
set_option maxRecDepth 100000
namespace Fx
open PySem L2 PyProof.Rows
/-! ### defs -/
inductive FR where
  | ret (d : D) (io : List D) | retn (ds : List D) (io : List D) | er (x : XD) (io : List D) | no
def ioM (io : Bool) (vs : List V) : MS := fun b => io = true ∧ ∃ r, vs = .ref b :: r
def ArgR (K : PySem.W.Frag) (M : MS) (H : Hp) (io : Bool) (vs : List V) (ds : List D) : Prop := match io with
  | false => RpL K M H vs ds
  | true => ∃ (a : Addr) (xs : List V) (as : List D) (r : List V) (dr : List D), vs = .ref a :: r ∧ ds = .lst as :: dr ∧ H a = some (.lst xs) ∧ M a ∧ RpL K M H xs as ∧ RpL K M H r dr
def IoR (K : PySem.W.Frag) (M : MS) (H : Hp) (io : Bool) (vs : List V) (ios : List D) : Prop := io = true → ∃ (a : Addr) (r xs : List V), vs = .ref a :: r ∧ H a = some (.lst xs) ∧ RpL K M H xs ios
def PostF (K : PySem.W.Frag) (M : MS) (H : Hp) (io : Bool) (vs : List V) (r : FR) (Q : VK) (E : XK) : Prop := match r with
  | .ret d ios => ∀ v H', Step (ioM io vs) H H' → IoR K M H' io vs ios → Rp K M H' v d → Q v H'
  | .retn ds ios => ∀ p xs H', Step (ioM io vs) H H' → H p = none → H' p = some (.lst xs) → IoR K (With M p) H' io vs ios → RpL K (With M p) H' xs ds → Q (.ref p) H'
  | .er x ios => ∀ cls od H', Step (ioM io vs) H H' → IoR K M H' io vs ios → XR K M H' cls od x → E cls od H'
  | .no => False
def spF (K : PySem.W.Frag) (io : Bool) (n : Nat) (F : List D → FR) : Sp := fun vs H Q E => vs.length = n ∧ ∃ M ds, MOk M H ∧ ArgR K M H io vs ds ∧ PostF K M H io vs (F ds) Q E
def startS (N : Nat) (io : Bool) (ds : List D) : List Sl := match io, ds with
  | true, .lst as :: r => .io as :: (r.map .va ++ List.replicate (N - 1 - r.length) .un)
  | _, ds => ds.map .va ++ List.replicate (N - ds.length) .un
def ioOf (io : Bool) (s : List Sl) : List D := match io, s[0]? with
  | true, some (Sl.io ds) => ds
  | _, _ => []
def outF (io : Bool) (o : Out) : FR := match o with
  | .nx s => .ret .non (ioOf io s)
  | .rt d s => .ret d (ioOf io s)
  | .rn ds s => .retn ds (ioOf io s)
  | .er x s => .er x (ioOf io s)
  | _ => .no
def bodyF (N : Nat) (io : Bool) (g : G) (ds : List D) : FR := outF io (g (startS N io ds))
section
variable {K : PySem.W.Frag} {M : MS} {H : Hp} {vs : List V} {ds : List D}
theorem start_va {n : Nat} {i : Nat} {d : D} (h : (ds.map Sl.va ++ List.replicate n .un)[i]? = some (.va d)) : ds[i]? = some d := by
  by_cases hi : i < ds.length
  · rw [List.getElem?_append_left (by simpa using hi), List.getElem?_map] at h
    cases e : ds[i]? with
    | none => rw [e] at h; cases h
    | some x => rw [e] at h; cases h; rfl
  · rw [List.getElem?_append_right (by simpa using hi), List.getElem?_replicate] at h
    split at h <;> cases h
theorem start_no {n : Nat} {i : Nat} {x : Sl} (h : (ds.map Sl.va ++ List.replicate n .un)[i]? = some x) : x = .un ∨ ∃ d, x = .va d := by
  by_cases hi : i < ds.length
  · rw [List.getElem?_append_left (by simpa using hi), List.getElem?_map] at h
    cases e : ds[i]? with
    | none => rw [e] at h; cases h
    | some x => rw [e] at h; cases h; exact .inr ⟨_, rfl⟩
  · rw [List.getElem?_append_right (by simpa using hi), List.getElem?_replicate] at h
    split at h
    · cases h; exact .inl rfl
    · cases h
theorem start_get {n : Nat} {i : Nat} {v : V} (h : vs[i]? = some v) : (vs.map some ++ List.replicate n none)[i]? = some (some v) := by
  rw [List.getElem?_append_left (by rw [List.length_map]; exact (List.getElem?_eq_some_iff.mp h).1), List.getElem?_map, h]
  rfl
/-- the slots at a def's entry -/
theorem SR.enter {io : Bool} {N : List Str} (m : MOk M H) (a : ArgR K M H io vs ds) (hl : vs.length ≤ N.length) : ∃ pa, SR ⟨K, H, M, pa, fun _ => none⟩ M (L2.start N vs) H (startS N.length io ds) ∧ (∀ b, pa = some b ↔ ioM io vs b) := by
  cases io with
  | false =>
    have a : RpL K M H vs ds := a
    have e : startS N.length false ds = ds.map .va ++ List.replicate (N.length - ds.length) .un := by unfold startS; rfl
    refine ⟨none, ?_, fun b => ⟨fun z => by (cases z), fun z => by (cases z.1)⟩⟩
    rw [e]
    exact {
      va := fun i d h => by
        obtain ⟨v, hv, q⟩ := a.get (start_va h)
        exact ⟨v, start_get hv, q⟩
      ow := fun i d h => by rcases start_no h with z | ⟨_, z⟩ <;> cases z
      io := fun i d h => by rcases start_no h with z | ⟨_, z⟩ <;> cases z
      pa := fun b hb => by cases hb
      ne := fun i j d1 d2 b n h1 => by rcases start_no h1 with z | ⟨_, z⟩ <;> cases z
      mo := m
      up := fun _ z => z
      dn := fun _ z => .inl z
      st := .rfl
      bm := m
      lk := fun b o e => by cases e
      len := by
        have := a.length
        unfold L2.start
        simp only [List.length_append, List.length_map, List.length_replicate]
        omega }
  | true =>
    obtain ⟨a0, xs, as, r, dr, rfl, rfl, hx, hm, q1, q2⟩ := a
    have e : startS N.length true (.lst as :: dr) = .io as :: (dr.map .va ++ List.replicate (N.length - 1 - dr.length) .un) := by unfold startS; rfl
    have e2 : L2.start N (.ref a0 :: r) = some (.ref a0) :: (r.map some ++ List.replicate (N.length - (r.length + 1)) none) := by unfold L2.start; rfl
    refine ⟨some a0, ?_, fun b => ⟨fun z => by (cases z; exact ⟨rfl, _, rfl⟩), fun ⟨_, r', z⟩ => by (cases z; rfl)⟩⟩
    rw [e, e2]
    exact {
      va := fun i d h => by
        cases i with
        | zero => cases h
        | succ i =>
          obtain ⟨v, hv, q⟩ := q2.get (start_va h)
          exact ⟨v, start_get hv, q⟩
      ow := fun i d h => by
        cases i with
        | zero => cases h
        | succ i => rcases start_no h with z | ⟨_, z⟩ <;> cases z
      io := fun i d h => by
        cases i with
        | zero =>
          cases h
          exact ⟨rfl, a0, xs, rfl, rfl, hx, hm, q1⟩
        | succ i => rcases start_no h with z | ⟨_, z⟩ <;> cases z
      pa := fun b hb => by
        cases hb
        exact ⟨hm, as, rfl⟩
      ne := fun i j d1 d2 b n h1 => by
        cases i with
        | zero => cases h1
        | succ i => rcases start_no h1 with z | ⟨_, z⟩ <;> cases z
      mo := m
      up := fun _ z => z
      dn := fun _ z => .inl z
      st := .rfl
      bm := m
      lk := fun b o e => by cases e
      len := by
        have := q2.length
        simp only [List.length_cons, List.length_append, List.length_map, List.length_replicate]
        have hl : r.length + 1 ≤ N.length := hl
        omega }
theorem SR.leave {io : Bool} {pa : Option Addr} {M' : MS} {σ' : L2.St} {H' : Hp} {s' : List Sl} (r : SR ⟨K, H, M, pa, fun _ => none⟩ M' σ' H' s') (hp : ∀ b, pa = some b ↔ ioM io vs b) (ha : ArgR K M H io vs ds) : Step (ioM io vs) H H' ∧ Sub M M' ∧
    IoR K M' H' io vs (ioOf io s') := by
  refine ⟨fun b o e n => r.st b o e fun z => n ((hp b).mp z), r.up, fun hio => ?_⟩
  subst hio
  by_cases h : ∃ b, pa = some b
  · obtain ⟨b, hb⟩ := h
    obtain ⟨_, rr, e⟩ := (hp b).mp hb
    obtain ⟨_, ds, h1⟩ := r.pa b hb
    obtain ⟨_, a, xs, h2, h3, h4, h5, h6⟩ := r.io 0 ds h1
    have h2 : pa = some a := h2
    rw [hb] at h2
    cases h2
    refine ⟨b, rr, xs, e, h4, ?_⟩
    unfold ioOf
    rw [h1]
    exact h6
  · obtain ⟨b, _, _, r', _, e, _⟩ := ha
    exact absurd ⟨b, (hp b).mpr ⟨rfl, r', e⟩⟩ h
theorem XR.sub {M' : MS} {cls : Value} {od : Option Addr} {x : XD} (m : MOk M' H) (s : Sub M M') (h : XR K M' H cls od x) : XR K M H cls od x := by
  obtain ⟨h1, h2⟩ := h
  refine ⟨h1, h2.imp id fun ⟨d, ws, e1, e2, e3, e4⟩ => ⟨d, ws, e1, e2, e3, e4.move m (.sub s)⟩⟩
/-- a def's body, run -/
theorem body_run {X : Cx} {N : List Str} {io : Bool} {body : List Stmt} {g : G} {E : XK} {Q : VK} (hK : X.K = K) (m : MOk M H) (a : ArgR K M H io vs ds) (hl : vs.length ≤ N.length)
    (h : ∀ B : Bs, B.K = K → SSs X B (fun cls d _ H => E cls d H) body g) (p : PostF K M H io vs (bodyF N.length io g ds) Q E) :
    ∃ t, PSs X body t ∧ t { nx := fun _ H' => Q .non H', rt := Q } (L2.start N vs) H := by
  obtain ⟨pa, r, hp⟩ := SR.enter (N := N) m a hl
  refine ⟨_, h ⟨K, H, M, pa, fun _ => none⟩ rfl, M, startS N.length io ds, r, ?_⟩
  unfold bodyF at p
  revert p
  cases g (startS N.length io ds) with
  | nx s =>
    intro p σ' H' M' r' ev
    obtain ⟨h1, h2, h3⟩ := r'.leave hp a
    refine p .non H' h1 (fun z => ?_) .non
    obtain ⟨b, rr, xs, e1, e2, e3⟩ := h3 z
    exact ⟨b, rr, xs, e1, e2, e3.move r'.mo (.sub h2)⟩
  | rt d s =>
    intro p v σ' H' M' r' q ev
    obtain ⟨h1, h2, h3⟩ := r'.leave hp a
    refine p v H' h1 (fun z => ?_) (Rp.move r'.mo (.sub h2) q)
    obtain ⟨b, rr, xs, e1, e2, e3⟩ := h3 z
    exact ⟨b, rr, xs, e1, e2, e3.move r'.mo (.sub h2)⟩
  | rn es s =>
    intro p b σ' H' M' r' q ev
    obtain ⟨h1, h2, h3⟩ := r'.leave hp a
    obtain ⟨xs, q1, q2, q3, q4, q5⟩ := q
    have sb : Sub (With M b) M' := fun c z => z.elim (h2 c) fun z => by rw [z]; exact q2
    refine p b xs H' h1 q3 q1 (fun z => ?_) (q4.move r'.mo (.sub sb))
    obtain ⟨b2, rr, xs, e1, e2, e3⟩ := h3 z
    exact ⟨b2, rr, xs, e1, e2, e3.move r'.mo (.sub sb)⟩
  | er x s =>
    intro p cls od σ' H' M' r' q
    obtain ⟨h1, h2, h3⟩ := r'.leave hp a
    refine p cls od H' h1 (fun z => ?_) (q.sub r'.mo h2)
    obtain ⟨b2, rr, xs, e1, e2, e3⟩ := h3 z
    exact ⟨b2, rr, xs, e1, e2, e3.move r'.mo (.sub h2)⟩
  | bk s => exact fun p => p.elim
  | ct s => exact fun p => p.elim
  | no => exact fun p => p.elim
end
section
variable {P : Program} {w : World} {K : PySem.W.Frag} {mg : Str → Option Value} {base : Heap}
/-- the context of the def st's body -/
abbrev cxD (P : Program) (w : World) (K : PySem.W.Frag) (mg : Str → Option Value) (base : Heap) (N : List Str) (qual : Str) (sc : Scope) (f : Addr) (cdv : Value) (A : Around) (outer : List Env) (s : Shared) (H : Hp) (E : XK) : Cx := cxOf (L2.CX P w) P w K mg base N qual sc f cdv A outer s H E
theorem fn_mk {x qual : Str} {st : Stmt} {f : Addr} {fd : FuncData} {N ps : List Str} {k : Nat} {io : Bool} {g : G} (F : Fun K x qual st f fd) (S : FnScope N ps (defScope st))
    (h : ∀ (cdv : Value) (A : Around) (outer : List Env) (s : Shared) (H : Hp) (E : XK), Room k (cxD P w K mg base N qual (defScope st) f cdv A outer s H E).A → (cxD P w K mg base N qual (defScope st) f cdv A outer s H E).A.guards = some [] →
      ∀ B : Bs, B.K = K → SSs (cxD P w K mg base N qual (defScope st) f cdv A outer s H E) B (fun cls d _ H => E cls d H) (defBody st) g) :
    FnG P w K mg base (k + 1) f fd ps (spF K io ps.length (bodyF N.length io g)) := by
  obtain ⟨oc, od, kV, doc, pm, an, cdv, ct, osl, rfl, lk, hcd⟩ := F.ex
  refine FnG.of lk hcd S (fun vs H Q E h => h.1) fun A outer s H vs Q E hr hgd ⟨hl, M, ds, m, a, p⟩ => ?_
  have hp : ps.length ≤ N.length := by
    have := congrArg List.length S.pre
    rw [List.length_take] at this
    omega
  exact body_run (X := cxD P w K mg base N qual (defScope st) f cdv A outer s H E) rfl m a (by rw [hl]; exact hp) (h cdv A outer s H E hr hgd) p
end

/-! ### calls -/
section
variable {X : Cx} {B : Bs} {W : WX} {k n : Nat} {f : Addr} {fd : FuncData} {ps ks : List Str} {sp : Sp} {E : L2.St → XK} {x : Str} {p pos : Pos} {e : Expr} {es : List Expr} {kws : List Keyword} {t tk : TA} {g : List Value → List Value → List Value} {gV : List V → List V → List V}
theorem run_fnT {pins : List (Addr × Obj)} {σ : L2.St} {H : Hp} {s : Shared} {Q : VK} {us ws : List Value} {vs zs : List V} (F : FnG X.prog X.w X.K X.mg X.base k f fd ps sp) (hr : Room k X.A) (hq : X.A.guards = some []) (hb : KBinds X.K fd ps ks g gV) (hx : PassesAt (L2.CX X.prog X.w) X σ (E σ))
    (I : Inv X pins σ H s) (r : Vals vs us) (rz : Vals zs ws) (h : sp (gV vs zs) H Q (E σ)) : wpAny (model X.prog X.w) X.A (call (.ref f) us (ks.zip ws)) (EP X pins σ Q) X.xe s := by
  have r2 := hb.rel r rz
  have hl : (g us ws).length = ps.length := by rw [← r2.length]; exact F.len _ _ _ _ h
  refine wpAny_call (codeAny_mono (F.run X.A X.stack s H ⟨us, ks.zip ws⟩ (g us ws) (gV vs zs) Q (E σ) hr hq I.env0 (hb.to s us ws I.kIn hl) r2 h) fun r s' hq => ?_)
  cases r with
  | error e => exact hx pins H s e s' I hq
  | ok fl =>
    cases fl with
    | ret u => exact I.after hq
    | next => exact False.elim hq
    | brk => exact False.elim hq
    | cont => exact False.elim hq
def tCallT (sp : Sp) (gV : List V → List V → List V) (E : L2.St → XK) (t tk : TA) : TE := fun σ H Q => t σ H fun vs H1 => tk σ H1 fun zs H2 => sp (gV vs zs) H2 Q (E σ)
/-- f(e, ..) -/
theorem pe_callT (F : FnG X.prog X.w X.K X.mg X.base k f fd ps sp) (hr : Room k X.A) (hq : X.A.guards = some []) (hg : Gl X x) (hm : X.mg x = some (.ref f)) (hk : PySem.W.keepIn X.K (.ref f) = true) (hb : KBinds X.K fd ps [] g gV) (hx : ∀ σ, PassesAt (L2.CX X.prog X.w) X σ (E σ))
    (ha : PA X (e :: es) t) (hdb : (x == ("__debug__" : Str)) = false := by decide) (he : starEach (e :: es) X.env = (false, eval e X.env) :: starEach es X.env := by rfl) (hpl : (backTo pos (starEach es X.env)).any (·.1) = false := by rfl) :
    PE X (.Call (.Name x p) (e :: es) [] pos) (tCallT sp gV E t tNil) := by
  refine ⟨fun pins s σ H Q I h => ?_⟩
  refine wpAny_Call_Name_kw (ld_glob I hg hm ?_ hdb)
  refine PySem.W.callWith_K (h₀ := X.base) I.ok.mod.kin hk (thn (ha.run pos pins s σ H _ I h) fun us s1 ⟨vs, H1, I1, r, q⟩ => ⟨I1.kIn, ?_⟩) he hpl
  exact run_fnT (ks := []) (ws := []) (zs := []) F hr hq hb (hx σ) I1 r .nil q
/-- f() -/
theorem pe_callT0 (F : FnG X.prog X.w X.K X.mg X.base k f fd ps sp) (hr : Room k X.A) (hq : X.A.guards = some []) (hg : Gl X x) (hm : X.mg x = some (.ref f)) (hk : PySem.W.keepIn X.K (.ref f) = true) (hb : KBinds X.K fd ps [] g gV) (hx : ∀ σ, PassesAt (L2.CX X.prog X.w) X σ (E σ))
    (hdb : (x == ("__debug__" : Str)) = false := by decide) : PE X (.Call (.Name x p) [] [] pos) (tCallT sp gV E tNil tNil) := by
  refine ⟨fun pins s σ H Q I h => ?_⟩
  refine wpAny_Call_Name_kw (ld_glob I hg hm ?_ hdb)
  exact PySem.W.callWith_K0 I.kIn hk (run_fnT (us := []) (vs := []) (ks := []) (ws := []) (zs := []) F hr hq hb (hx σ) I .nil .nil h)
/-- f(e, .., k = v, ..) -/
theorem pe_callTK (F : FnG X.prog X.w X.K X.mg X.base k f fd ps sp) (hr : Room k X.A) (hq : X.A.guards = some []) (hg : Gl X x) (hm : X.mg x = some (.ref f)) (hk : PySem.W.keepIn X.K (.ref f) = true) (hb : KBinds X.K fd ps ks g gV) (hx : ∀ σ, PassesAt (L2.CX X.prog X.w) X σ (E σ))
    (ha : PA X (e :: es) t) (hkw : PK X kws tk) (hall : (backToKw pos (keywordEach kws X.env)).all (·.1.isSome) = true := by rfl) (hks : (backToKw pos (keywordEach kws X.env)).filterMap (·.1) = ks := by rfl)
    (hdb : (x == ("__debug__" : Str)) = false := by decide) (he : starEach (e :: es) X.env = (false, eval e X.env) :: starEach es X.env := by rfl)
    (hpl : ((backTo pos (starEach (e :: es) X.env)).any (·.1) || (backToKw pos (keywordEach kws X.env)).any (·.1.isNone)) = false := by rfl) :
    PE X (.Call (.Name x p) (e :: es) kws pos) (tCallT sp gV E t tk) := by
  refine ⟨fun pins s σ H Q I h => ?_⟩
  refine wpAny_Call_Name_kw (ld_glob I hg hm ?_ hdb)
  refine PySem.W.callWith_KW (h₀ := X.base) I.ok.mod.kin hk hall (thn (ha.run pos pins s σ H _ I h) fun us s1 ⟨vs, H1, I1, r, q⟩ => ?_) hpl he
  refine thn (hkw.run pos pins s1 σ H1 _ I1 q) fun ws s2 ⟨zs, H2, I2, rz, q2⟩ => ⟨I2.kIn, ?_⟩
  rw [hks]
  exact run_fnT F hr hq hb (hx σ) I2 r rz q2
/-- f(k = v, ..) -/
theorem pe_callTK0 (F : FnG X.prog X.w X.K X.mg X.base k f fd ps sp) (hr : Room k X.A) (hq : X.A.guards = some []) (hg : Gl X x) (hm : X.mg x = some (.ref f)) (hk : PySem.W.keepIn X.K (.ref f) = true) (hb : KBinds X.K fd ps ks g gV) (hx : ∀ σ, PassesAt (L2.CX X.prog X.w) X σ (E σ))
    (hkw : PK X kws tk) (hall : (backToKw pos (keywordEach kws X.env)).all (·.1.isSome) = true := by rfl) (hks : (backToKw pos (keywordEach kws X.env)).filterMap (·.1) = ks := by rfl)
    (hdb : (x == ("__debug__" : Str)) = false := by decide)
    (hpl : ((backTo pos (starEach [] X.env)).any (·.1) || (backToKw pos (keywordEach kws X.env)).any (·.1.isNone)) = false := by rfl) :
    PE X (.Call (.Name x p) [] kws pos) (tCallT sp gV E tNil tk) := by
  refine ⟨fun pins s σ H Q I h => ?_⟩
  refine wpAny_Call_Name_kw (ld_glob I hg hm ?_ hdb)
  refine PySem.W.callWith_KW0 (h₀ := X.base) I.ok.mod.kin hk hall (thn (hkw.run pos pins s σ H _ I h) fun ws s2 ⟨zs, H2, I2, rz, q2⟩ => ⟨I2.kIn, ?_⟩) hpl
  rw [hks]
  exact run_fnT (us := []) (vs := []) F hr hq hb (hx σ) I2 .nil rz q2

/-! ### .. by functions on data -/
def ofFR (r : FR) (u : List D → List Sl) : R D := match r with
  | .ret d ios => .ok d (u ios)
  | .retn ds ios => .ok (.lst ds) (u ios)
  | .er x ios => .er x (u ios)
  | .no => .no
def ofFRN (r : FR) (u : List D → List Sl) : R (List D) := match r with
  | .retn ds ios => .ok ds (u ios)
  | .er x ios => .er x (u ios)
  | _ => .no
def SK (X : Cx) (B : Bs) (W : WX) (kws : List Keyword) (f : F (List D)) : Prop := PK X kws (tP B W (rhoL B) f)
theorem PK.imp {kws : List Keyword} {t u : TA} (h : PK X kws t) (k : ∀ σ H Q, u σ H Q → t σ H Q) : PK X kws u := ⟨fun pos pins s σ H Q I q => h.run pos pins s σ H Q I (k σ H Q q)⟩
theorem sk_nil : SK X B W [] nilF := PK.imp pk_nil fun σ H Q ⟨M, s, r, p⟩ => p.out r .nil
theorem sk_cons {nm : Option Str} {kpos : Pos} {f : F D} {kk : F (List D)} (ha : SE X B W e f) (hr : SK X B W kws kk) : SK X B W (⟨nm, e, kpos⟩ :: kws) (consF f kk) := by
  refine PK.imp (pk_cons ha hr) fun σ H Q ⟨M, s, r, p⟩ => ?_
  exact ⟨M, s, r, Post.bind p fun x s1 M1 H1 v r1 q1 ev1 p1 => ⟨M1, s1, r1, Post.bind p1 fun xs s2 M2 H2 vs r2 q2 ev2 p2 => p2.out r2 (.cons (q1.move r1.mo ev2) q2)⟩⟩
/-- a new list that a callee has handed out -/
theorem SR.got {M : MS} {σ : L2.St} {H H' : Hp} {s : List Sl} {p : Addr} {xs : List V} (r : SR B M σ H s) (e : H p = none) (g : Same H H') (hp : H' p = some (.lst xs)) : SR B (With M p) σ H' s :=
  (r.laid (xs := xs) e).grow fun b o h => by
    by_cases hb : b = p
    · subst hb; rw [upd_same] at h; rw [hp]; exact h
    · rw [upd_ne hb] at h; exact g b o h
theorem same_of {io : Bool} {vs : List V} {H H' : Hp} (hio : io = false) (st : Step (ioM io vs) H H') : Same H H' := fun b o e => st b o e fun z => by rw [hio] at z; cases z.1
def GD (K : PySem.W.Frag) (gV : List V → List V → List V) (gD : List D → List D → List D) : Prop := ∀ (M : MS) (H : Hp) (vs zs : List V) (ds es : List D), RpL K M H vs ds → RpL K M H zs es → RpL K M H (gV vs zs) (gD ds es)
def callF (Fn : List D → FR) (n : Nat) (gD : List D → List D → List D) (k kk : F (List D)) : F D := fun s => (k s).bind fun ds s1 => (kk s1).bind fun es s2 => if (gD ds es).length = n then ofFR (Fn (gD ds es)) (fun _ => s2) else .no
def callN (Fn : List D → FR) (n : Nat) (gD : List D → List D → List D) (k kk : F (List D)) : F (List D) := fun s => (k s).bind fun ds s1 => (kk s1).bind fun es s2 => if (gD ds es).length = n then ofFRN (Fn (gD ds es)) (fun _ => s2) else .no
theorem mok_with {M : MS} {H : Hp} {p : Addr} {xs : List V} (m : MOk M H) (h : H p = some (.lst xs)) : MOk (With M p) H := fun b z => z.elim (m b) fun z => by rw [z, h]; exact trivial
theorem call_read {Fn : List D → FR} {gD : List D → List D → List D} {ka kk : F (List D)} {σ : L2.St} {H : Hp} {Q : VK} {ta tk : TA} (hg : GD B.K gV gD)
    (ha : ∀ Q, tP B W (rhoL B) ka σ H Q → ta σ H Q) (hk : ∀ H Q, tP B W (rhoL B) kk σ H Q → tk σ H Q) (h : tP B W (rhoD B) (callF Fn n gD ka kk) σ H Q) : tCallT (spF B.K false n Fn) gV (WE W) ta tk σ H Q := by
  obtain ⟨M, s, r, p⟩ := h
  refine ha _ ⟨M, s, r, Post.bind p fun ds s1 M1 H1 vs r1 q1 ev1 p1 => hk _ _ ⟨M1, s1, r1, Post.bind p1 fun es s2 M2 H2 zs r2 q2 ev2 p2 => ?_⟩⟩
  split at p2
  case isFalse => exact p2.elim
  case isTrue hn =>
  have ql := hg M2 H2 vs zs ds es (q1.move r1.mo ev2) q2
  refine ⟨ql.length.trans hn, M2, gD ds es, r2.mo, ql, ?_⟩
  revert p2
  cases Fn (gD ds es) with
  | ret d ios => exact fun p2 v H' st _ q => p2.grow r2 (same_of rfl st) q
  | retn es ios => exact fun p2 a xs H' st hn hp _ q => p2.grow r2 (same_of rfl st) (.lst hp (r2.mo.there hn) (q.move (mok_with (r2.mo.same (same_of rfl st)) hp) (.sub fun _ z => .inl z)))
  | er x ios => exact fun p2 cls od H' st _ q => p2 cls od H' M2 (r2.grow (same_of rfl st)) q
  | no => exact fun p2 => p2
theorem callN_read {Fn : List D → FR} {gD : List D → List D → List D} {ka kk : F (List D)} {σ : L2.St} {H : Hp} {Q : VK} {ta tk : TA} (hg : GD B.K gV gD)
    (ha : ∀ Q, tP B W (rhoL B) ka σ H Q → ta σ H Q) (hk : ∀ H Q, tP B W (rhoL B) kk σ H Q → tk σ H Q) (h : tN B W (callN Fn n gD ka kk) σ H Q) : tCallT (spF B.K false n Fn) gV (WE W) ta tk σ H Q := by
  obtain ⟨M, s, r, p⟩ := h
  refine ha _ ⟨M, s, r, PostN.bind p fun ds s1 M1 H1 vs r1 q1 ev1 p1 => hk _ _ ⟨M1, s1, r1, PostN.bind p1 fun es s2 M2 H2 zs r2 q2 ev2 p2 => ?_⟩⟩
  split at p2
  case isFalse => exact p2.elim
  case isTrue hn =>
  have ql := hg M2 H2 vs zs ds es (q1.move r1.mo ev2) q2
  refine ⟨ql.length.trans hn, M2, gD ds es, r2.mo, ql, ?_⟩
  revert p2
  cases Fn (gD ds es) with
  | ret d ios => exact fun p2 => p2.elim
  | retn es ios =>
    intro p2 a xs H' st hn hp _ q
    have hL : B.L a = none := by
      cases h : B.L a with
      | none => rfl
      | some o =>
        have := (r2.lk a o h).2.1
        rw [hn] at this
        cases this
    have rr := r2.got hn (same_of rfl st) hp
    refine p2 a H' _ rr ⟨xs, hp, .inr rfl, ?_, q, hL, r2.noOw hn⟩ ⟨fun c z => z.elim .inl fun z => .inr (z ▸ hn), .same (same_of rfl st)⟩
    rcases rr.dn a (.inr rfl) with z | z
    · exact absurd (r2.up a z) (r2.mo.there hn)
    · exact z
  | er x ios => exact fun p2 cls od H' st _ q => p2 cls od H' M2 (r2.grow (same_of rfl st)) q
  | no => exact fun p2 => p2
/-- the arguments in the parameters' order: us by place, ws by name, ds the defaults -/
def pickG {α : Type} (n1 n2 : Nat) (ds : List α) (idx : List Nat) (us ws : List α) : List α := if us.length = n1 ∧ ws.length = n2 then idx.filterMap (fun i => (us ++ ws ++ ds)[i]?) else []
theorem pick_paired {α β : Type} {R : α → β → Prop} {xs : List α} {ys : List β} (h : ∀ i : Nat, (∃ x y, xs[i]? = some x ∧ ys[i]? = some y ∧ R x y) ∨ (xs[i]? = none ∧ ys[i]? = none)) : ∀ idx : List Nat, Paired R (idx.filterMap fun i => xs[i]?) (idx.filterMap fun i => ys[i]?)
  | [] => .nil
  | i :: idx => by
    rcases h i with ⟨x, y, e1, e2, r⟩ | ⟨e1, e2⟩
    · rw [List.filterMap_cons_some e1, List.filterMap_cons_some e2]
      exact .cons r (pick_paired h idx)
    · rw [List.filterMap_cons_none e1, List.filterMap_cons_none e2]
      exact pick_paired h idx
theorem vals_at {xs : List V} {us : List Value} (r : Vals xs us) (i : Nat) : (∃ x y, xs[i]? = some x ∧ us[i]? = some y ∧ RelV x y) ∨ (xs[i]? = none ∧ us[i]? = none) := by
  cases e : xs[i]? with
  | none => exact .inr ⟨rfl, Vals.none_of r e⟩
  | some x =>
    obtain ⟨u, h1, h2⟩ := Vals.get r e
    exact .inl ⟨x, u, rfl, h1, h2⟩
theorem pick_vals {n1 n2 : Nat} {dvs : List V} {ds : List Value} {idx : List Nat} (hd : Vals dvs ds) {vs zs : List V} {us ws : List Value} (h1 : Vals vs us) (h2 : Vals zs ws) : Vals (pickG n1 n2 dvs idx vs zs) (pickG n1 n2 ds idx us ws) := by
  unfold pickG
  rw [h1.length, h2.length]
  split
  · exact pick_paired (vals_at ((h1.append h2).append hd)) idx
  · exact .nil
theorem RpL.filterMap {K : PySem.W.Frag} {M : MS} {H : Hp} {xs : List V} {ds : List D} (r : RpL K M H xs ds) : ∀ idx : List Nat, RpL K M H (idx.filterMap fun i => xs[i]?) (idx.filterMap fun i => ds[i]?)
  | [] => .nil
  | i :: idx => by
    cases e : xs[i]? with
    | none =>
      have e2 : ds[i]? = none := by
        have := r.length
        have := List.getElem?_eq_none_iff.mp e
        exact List.getElem?_eq_none_iff.mpr (by omega)
      rw [List.filterMap_cons_none e, List.filterMap_cons_none e2]
      exact r.filterMap idx
    | some v =>
      obtain ⟨d, e2, q⟩ := r.get' e
      rw [List.filterMap_cons_some e, List.filterMap_cons_some e2]
      exact .cons q (r.filterMap idx)
theorem pick_gd {K : PySem.W.Frag} {n1 n2 : Nat} {dvs : List V} {dds : List D} {idx : List Nat} (hd : ∀ M H, RpL K M H dvs dds) : GD K (pickG n1 n2 dvs idx) (pickG n1 n2 dds idx) := fun M H vs zs ds es h1 h2 => by
  unfold pickG
  rw [h1.length, h2.length]
  split
  · exact ((h1.append h2).append (hd M H)).filterMap idx
  · exact .nil
/-- a def that is known, in the context at hand -/
structure Dn (X : Cx) (B : Bs) (W : WX) (x : Str) (io : Bool) (n : Nat) (Fn : List D → FR) (ks : List Str) (gD : List D → List D → List D) : Prop where
  ex : ∃ (k : Nat) (f : Addr) (fd : FuncData) (ps : List Str) (g : List Value → List Value → List Value) (gV : List V → List V → List V), FnG X.prog X.w X.K X.mg X.base k f fd ps (spF B.K io n Fn) ∧ Room k X.A ∧ X.A.guards = some [] ∧ Gl X x ∧ X.mg x = some (.ref f) ∧
    PySem.W.keepIn X.K (.ref f) = true ∧ KBinds X.K fd ps ks g gV ∧ GD B.K gV gD
  tk : Takes X W
/-- a def that is known: its text, its promise -/
structure Kn (P : Program) (w : World) (K : PySem.W.Frag) (mg : Str → Option Value) (base : Heap) (x qual : Str) (st : Stmt) (k : Nat) (io : Bool) (ps : List Str) (Fn : List D → FR) : Prop where
  ex : ∃ (f : Addr) (fd : FuncData), Fun K x qual st f fd ∧ FnG P w K mg base k f fd ps (spF K io ps.length Fn) ∧ mg x = some (.ref f)
/-- how a call of it binds: n1 arguments by place, ks by name -/
theorem Fun.kb {K : PySem.W.Frag} {x qual : Str} {st : Stmt} {f : Addr} {fd : FuncData} {ps ks : List Str} {n1 : Nat} {idx : List Nat} (F : Fun K x qual st f fd) (hp : 0 < ps.length)
    (h : ∀ (kV doc pm : Value) (an : Option Addr) (cdv ct : Value) (us ws : List Value), us.length = n1 → ws.length = ks.length → bindArgs (PySem.W.fnOf x qual (defArgs st) (defBody st) (defScope st) .none kV doc pm an cdv ct) ⟨us, ks.zip ws⟩ = pure (ps.zip (idx.filterMap fun i => (us ++ ws ++ [])[i]?))) :
    KBinds K fd ps ks (pickG n1 ks.length [] idx) (pickG n1 ks.length [] idx) := by
  obtain ⟨oc, od, kV, doc, pm, an, cdv, ct, osl, rfl, lk, hcd⟩ := F.ex
  refine ⟨fun s us ws _ hl => ?_, fun h1 h2 => pick_vals .nil h1 h2⟩
  unfold pickG at hl ⊢
  split at hl
  · rename_i hc
    rw [if_pos hc]
    exact .of_eq (h kV doc pm an cdv ct us ws hc.1 hc.2)
  · exact absurd hl (by simp; omega)
theorem Kn.dn {X : Cx} {B : Bs} {W : WX} {P : Program} {w : World} {K : PySem.W.Frag} {mg : Str → Option Value} {base : Heap} {x qual : Str} {st : Stmt} {k j : Nat} {io : Bool} {ps ks : List Str} {Fn : List D → FR} {n1 : Nat} {idx : List Nat} (kn : Kn P w K mg base x qual st k io ps Fn)
    (hX : X.prog = P ∧ X.w = w ∧ X.K = K ∧ X.mg = mg ∧ X.base = base) (hK : B.K = K) (hr : Room j X.A) (hk : k ≤ j) (hq : X.A.guards = some []) (hg : Gl X x) (tk : Takes X W) (hp : 0 < ps.length)
    (h : ∀ (kV doc pm : Value) (an : Option Addr) (cdv ct : Value) (us ws : List Value), us.length = n1 → ws.length = ks.length → bindArgs (PySem.W.fnOf x qual (defArgs st) (defBody st) (defScope st) .none kV doc pm an cdv ct) ⟨us, ks.zip ws⟩ = pure (ps.zip (idx.filterMap fun i => (us ++ ws ++ [])[i]?))) :
    Dn X B W x io ps.length Fn ks (pickG n1 ks.length [] idx) := by
  obtain ⟨rfl, rfl, rfl, rfl, rfl⟩ := hX
  obtain ⟨f, fd, F, G, hm⟩ := kn.ex
  exact ⟨⟨k, f, fd, ps, _, _, hK ▸ G, hr.mono hk, hq, hg, hm, F.kp, Fun.kb F hp h, pick_gd fun _ _ => .nil⟩, tk⟩
variable {Fn : List D → FR} {gD : List D → List D → List D} {ka kk : F (List D)}
theorem se_call (D : Dn X B W x false n Fn [] gD) (ha : SA X B W (e :: es) ka) (hdb : (x == ("__debug__" : Str)) = false := by decide) (he : starEach (e :: es) X.env = (false, eval e X.env) :: starEach es X.env := by rfl) (hpl : (backTo pos (starEach es X.env)).any (·.1) = false := by rfl) :
    SE X B W (.Call (.Name x p) (e :: es) [] pos) (callF Fn n gD ka nilF) := by
  obtain ⟨⟨k, f, fd, ps, g, gV, F, hr, hq, hg, hm, hk, hb, gd⟩, tk⟩ := D
  exact PE.imp (pe_callT F hr hq hg hm hk hb (passAt tk) ha hdb he hpl) fun σ H Q p => call_read gd (fun _ q => q) (fun H Q ⟨M, s, r, p⟩ => p.out r .nil) p
theorem sn_call (D : Dn X B W x false n Fn [] gD) (ha : SA X B W (e :: es) ka) (hdb : (x == ("__debug__" : Str)) = false := by decide) (he : starEach (e :: es) X.env = (false, eval e X.env) :: starEach es X.env := by rfl) (hpl : (backTo pos (starEach es X.env)).any (·.1) = false := by rfl) :
    SN X B W (.Call (.Name x p) (e :: es) [] pos) (callN Fn n gD ka nilF) := by
  obtain ⟨⟨k, f, fd, ps, g, gV, F, hr, hq, hg, hm, hk, hb, gd⟩, tk⟩ := D
  exact PE.imp (pe_callT F hr hq hg hm hk hb (passAt tk) ha hdb he hpl) fun σ H Q p => callN_read gd (fun _ q => q) (fun H Q ⟨M, s, r, p⟩ => p.out r .nil) p
theorem se_call0 (D : Dn X B W x false n Fn [] gD) (hdb : (x == ("__debug__" : Str)) = false := by decide) : SE X B W (.Call (.Name x p) [] [] pos) (callF Fn n gD nilF nilF) := by
  obtain ⟨⟨k, f, fd, ps, g, gV, F, hr, hq, hg, hm, hk, hb, gd⟩, tk⟩ := D
  exact PE.imp (pe_callT0 F hr hq hg hm hk hb (passAt tk) hdb) fun σ H Q p => call_read gd (fun Q ⟨M, s, r, p⟩ => p.out r .nil) (fun H Q ⟨M, s, r, p⟩ => p.out r .nil) p
theorem se_callK (D : Dn X B W x false n Fn ks gD) (ha : SA X B W (e :: es) ka) (hkw : SK X B W kws kk) (hall : (backToKw pos (keywordEach kws X.env)).all (·.1.isSome) = true := by rfl) (hks : (backToKw pos (keywordEach kws X.env)).filterMap (·.1) = ks := by rfl)
    (hdb : (x == ("__debug__" : Str)) = false := by decide) (he : starEach (e :: es) X.env = (false, eval e X.env) :: starEach es X.env := by rfl)
    (hpl : ((backTo pos (starEach (e :: es) X.env)).any (·.1) || (backToKw pos (keywordEach kws X.env)).any (·.1.isNone)) = false := by rfl) : SE X B W (.Call (.Name x p) (e :: es) kws pos) (callF Fn n gD ka kk) := by
  obtain ⟨⟨k, f, fd, ps, g, gV, F, hr, hq, hg, hm, hk, hb, gd⟩, tk⟩ := D
  exact PE.imp (pe_callTK F hr hq hg hm hk hb (passAt tk) ha hkw hall hks hdb he hpl) fun σ H Q p => call_read gd (fun _ q => q) (fun _ _ q => q) p
theorem se_callK0 (D : Dn X B W x false n Fn ks gD) (hkw : SK X B W kws kk) (hall : (backToKw pos (keywordEach kws X.env)).all (·.1.isSome) = true := by rfl) (hks : (backToKw pos (keywordEach kws X.env)).filterMap (·.1) = ks := by rfl)
    (hdb : (x == ("__debug__" : Str)) = false := by decide)
    (hpl : ((backTo pos (starEach [] X.env)).any (·.1) || (backToKw pos (keywordEach kws X.env)).any (·.1.isNone)) = false := by rfl) : SE X B W (.Call (.Name x p) [] kws pos) (callF Fn n gD nilF kk) := by
  obtain ⟨⟨k, f, fd, ps, g, gV, F, hr, hq, hg, hm, hk, hb, gd⟩, tk⟩ := D
  exact PE.imp (pe_callTK0 F hr hq hg hm hk hb (passAt tk) hkw hall hks hdb hpl) fun σ H Q p => call_read gd (fun Q ⟨M, s, r, p⟩ => p.out r .nil) (fun _ _ q => q) p
/-- f(own, e, ..): the list of one's own at slot i may be changed by f -/
def callIoF (Fn : List D → FR) (n : Nat) (i : Nat) (k : F (List D)) : F D := fun s => match ownAt s i with
  | none => .no
  | some _ => (k s).bind fun ds s1 => if ds.length + 1 = n then match s1[i]? with
    | some (.ow as) => ofFR (Fn (.lst as :: ds)) fun ios => s1.set i (.ow ios)
    | some (.io as) => ofFR (Fn (.lst as :: ds)) fun ios => s1.set i (.io ios)
    | _ => .no
    else .no
theorem pick_range {α : Type} {n : Nat} {us : List α} (h : us.length = n) : pickG n 0 [] (List.range n) us [] = us := by
  unfold pickG
  rw [if_pos ⟨h, rfl⟩, List.append_nil, List.append_nil]
  subst h
  have key : ∀ (m : Nat), m ≤ us.length → (List.range m).filterMap (fun i => us[i]?) = us.take m := fun m => by
    induction m with
    | zero => intro _; rfl
    | succ m ih =>
      intro hm
      have hlt : m < us.length := hm
      rw [List.range_succ, List.filterMap_append, ih (by omega), List.filterMap_cons_some (List.getElem?_eq_getElem hlt), List.take_add_one, List.getElem?_eq_getElem hlt]
      rfl
  rw [key us.length (Nat.le_refl _), List.take_length]
structure DnIo (X : Cx) (B : Bs) (W : WX) (x : Str) (n : Nat) (Fn : List D → FR) : Prop where
  ex : ∃ (k : Nat) (f : Addr) (fd : FuncData) (ps : List Str), FnG X.prog X.w X.K X.mg X.base k f fd ps (spF B.K true n Fn) ∧ Room k X.A ∧ X.A.guards = some [] ∧ Gl X x ∧ X.mg x = some (.ref f) ∧ PySem.W.keepIn X.K (.ref f) = true ∧
    KBinds X.K fd ps [] (pickG n 0 [] (List.range n)) (pickG n 0 [] (List.range n))
  tk : Takes X W
theorem Kn.dnIo {X : Cx} {B : Bs} {W : WX} {P : Program} {w : World} {K : PySem.W.Frag} {mg : Str → Option Value} {base : Heap} {x qual : Str} {st : Stmt} {k j : Nat} {ps : List Str} {Fn : List D → FR} (kn : Kn P w K mg base x qual st k true ps Fn)
    (hX : X.prog = P ∧ X.w = w ∧ X.K = K ∧ X.mg = mg ∧ X.base = base) (hK : B.K = K) (hr : Room j X.A) (hk : k ≤ j) (hq : X.A.guards = some []) (hg : Gl X x) (tk : Takes X W) (hp : 0 < ps.length)
    (h : ∀ (kV doc pm : Value) (an : Option Addr) (cdv ct : Value) (us ws : List Value), us.length = ps.length → ws.length = ([] : List Str).length → bindArgs (PySem.W.fnOf x qual (defArgs st) (defBody st) (defScope st) .none kV doc pm an cdv ct) ⟨us, ([] : List Str).zip ws⟩ = pure (ps.zip ((List.range ps.length).filterMap fun i => (us ++ ws ++ [])[i]?))) :
    DnIo X B W x ps.length Fn := by
  obtain ⟨rfl, rfl, rfl, rfl, rfl⟩ := hX
  obtain ⟨f, fd, F, G, hm⟩ := kn.ex
  exact ⟨⟨k, f, fd, ps, hK ▸ G, hr.mono hk, hq, hg, hm, F.kp, Fun.kb (ks := []) F hp h⟩, tk⟩
theorem se_callIo (i : Nat) {y : Str} {py : Pos} (D : DnIo X B W x n Fn) (ha : SA X B W es ka) (hst : starEach (.Name y py :: es) X.env = (false, eval (.Name y py) X.env) :: starEach es X.env := by rfl) (hpl : (backTo pos (starEach es X.env)).any (·.1) = false := by rfl)
    (hN : X.N[i]? = some y := by rfl) (hv : Vis X.env.scope y := by first | exact Or.inl rfl | exact Or.inr (Or.inl rfl) | exact Or.inr (Or.inr rfl))
    (hd : (y == ("__debug__" : Str)) = false := by decide) (hcd : (y == ("__classdict__" : Str)) = false := by decide) (hdb : (x == ("__debug__" : Str)) = false := by decide) :
    SE X B W (.Call (.Name x p) (.Name y py :: es) [] pos) (callIoF Fn n i ka) := by
  obtain ⟨⟨k, f, fd, ps, F, hr, hq, hg, hm, hk, hb⟩, tk⟩ := D
  refine PE.imp (pe_callT F hr hq hg hm hk hb (passAt tk) (pa_cons (pe_var hN hv hd hcd) ha hst) hdb hst hpl) fun σ H Q ⟨M, s, r, p⟩ => ?_
  unfold callIoF at p
  split at p
  · exact p.elim
  · rename_i es0 e0
    obtain ⟨a, xs0, e1, hq0, _⟩ := ownAt.run r e0
    refine ⟨_, e1, M, s, r, Post.bind p fun ds s1 M1 H1 vs r1 q1 ev1 p1 => ?_⟩
    split at p1
    case isFalse => exact p1.elim
    case isTrue hn =>
    have hvl : (V.ref a :: vs).length = n := by rw [List.length_cons, q1.length]; exact hn
    show spF B.K true n Fn (pickG n 0 [] (List.range n) (V.ref a :: vs) []) H1 Q (WE W σ)
    rw [pick_range hvl]
    refine ⟨hvl, ?_⟩
    -- the slot as it stands now
    have key : ∀ (io : Bool) (as : List D), s1[i]? = some (if io then Sl.io as else Sl.ow as) → Post B W (rhoD B) M1 H1 σ (ofFR (Fn (.lst as :: ds)) fun ios => s1.set i (if io then Sl.io ios else Sl.ow ios)) Q →
        ∃ M' ds', MOk M' H1 ∧ ArgR B.K M' H1 true (.ref a :: vs) ds' ∧ PostF B.K M' H1 true (.ref a :: vs) (Fn ds') Q (WE W σ) := fun io as hs p2 => by
      have hx : ∃ xs, H1 a = some (.lst xs) ∧ M1 a ∧ RpL B.K M1 H1 xs as := by
        cases io with
        | true =>
          obtain ⟨z, a', xs, h2, h3, h4, h5, h6⟩ := r1.io i as hs
          rw [← z, e1] at h3
          cases h3
          exact ⟨xs, h4, h5, h6⟩
        | false =>
          obtain ⟨a', xs, h3, h4, h5, h6, h7⟩ := r1.ow i as hs
          rw [e1] at h3
          cases h3
          exact ⟨xs, h4, h5, h7⟩
      obtain ⟨xs, hx1, hx2, hx3⟩ := hx
      refine ⟨M1, .lst as :: ds, r1.mo, ⟨a, xs, as, vs, ds, rfl, rfl, hx1, hx2, hx3, q1⟩, ?_⟩
      have stp : ∀ {H' : Hp}, Step (ioM true (.ref a :: vs)) H1 H' → Step (fun b => b = a) H1 H' := fun {H'} st b o e n => st b o e fun ⟨_, r', z⟩ => n (by cases z; rfl)
      revert p2
      cases Fn (.lst as :: ds) with
      | ret d ios =>
        intro p2 v H' st ir q
        obtain ⟨a2, r2, ys, h1, h2, h3⟩ := ir rfl
        cases h1
        obtain ⟨rr, ev⟩ := r1.mutated (io := io) hs e1 h2 h3 (stp st)
        exact p2 v H' M1 rr q ev
      | retn es ios =>
        intro p2 b ys H' st hn2 hp ir q
        obtain ⟨a2, r2, zs, h1, h2, h3⟩ := ir rfl
        cases h1
        have rl := r1.laid (xs := ys) hn2
        have ne : a ≠ b := fun z => by rw [z, hn2] at hx1; cases hx1
        have st2 : Step (fun c => c = a) (upd H1 b (.lst ys)) H' := fun c o e n => by
          by_cases hc : c = b
          · subst hc; rw [upd_same] at e; rw [hp]; exact e
          · rw [upd_ne hc] at e; exact stp st c o e n
        obtain ⟨rr, ev⟩ := rl.mutated (io := io) hs e1 h2 h3 st2
        have evL : Ev M1 H1 (With M1 b) (upd H1 b (.lst ys)) := ⟨fun c z => z.elim .inl fun z => .inr (z ▸ hn2), .same (same_upd hn2)⟩
        have nb : ∀ (j : Nat) (fs : List D), (s1.set i (if io = true then Sl.io ios else Sl.ow ios))[j]? = some (.ow fs) → σ[j]? ≠ some (some (.ref b)) := fun j fs h z => by
          rcases nth_set h with ⟨rfl, _⟩ | ⟨_, h⟩
          · rw [e1] at z
            cases z
            exact ne rfl
          · exact r1.noOw hn2 j fs h z
        have h0 : B.H0 b = none := by
          rcases rr.dn b (.inr rfl) with z | z
          · exact absurd (r1.up b z) (r1.mo.there hn2)
          · exact z
        have nL : B.L b = none := by
          cases h : B.L b with
          | none => rfl
          | some o =>
            have := (r1.lk b o h).2.1
            rw [hn2] at this
            cases this
        -- let the new list go
        have fr : SR B M1 σ H' (s1.set i (if io = true then Sl.io ios else Sl.ow ios)) := by
          have sb : Ev (With M1 b) H' M1 H' := .sub fun _ z => .inl z
          exact {
            va := fun j d e => let ⟨v, h1, q⟩ := rr.va j d e; ⟨v, h1, q.move rr.mo sb⟩
            ow := fun j d e => by
              obtain ⟨c, zs, h1, h2, h3, h4, h5⟩ := rr.ow j d e
              refine ⟨c, zs, h1, h2, h3.resolve_right fun z => nb j d e (z ▸ h1), h4, h5.move rr.mo sb⟩
            io := fun j d e => by
              obtain ⟨z, c, zs, h1, h2, h3, h4, h5⟩ := rr.io j d e
              refine ⟨z, c, zs, h1, h2, h3, h4.resolve_right fun z2 => ?_, h5.move rr.mo sb⟩
              rw [z2] at h1
              exact (r1.mo.there hn2) (r1.up b (rr.pa b h1).1)
            pa := rr.pa
            ne := rr.ne
            mo := fun c z => rr.mo c (.inl z)
            up := r1.up
            dn := r1.dn
            st := rr.st
            bm := rr.bm
            lk := fun c o e => by
              obtain ⟨h1, h2, h3⟩ := rr.lk c o e
              exact ⟨(r1.lk c o e).1, h2, h3⟩
            len := rr.len }
        refine p2 (.ref b) H' M1 fr (.lst hp (r1.mo.there hn2) (q.move rr.mo (.sub fun _ z => .inl z))) ⟨fun _ z => .inl z, fun c o e n => st c o e fun ⟨_, r', z⟩ => n (by cases z; exact hx2)⟩
      | er x ios =>
        intro p2 cls od H' st ir q
        obtain ⟨a2, r2, ys, h1, h2, h3⟩ := ir rfl
        cases h1
        obtain ⟨rr, ev⟩ := r1.mutated (io := io) hs e1 h2 h3 (stp st)
        exact p2 cls od H' M1 rr q
      | no => exact fun p2 => p2
    split at p1
    · rename_i as hs
      exact key false as hs p1
    · rename_i as hs
      exact key true as hs p1
    · exact p1.elim
end
end Fx

set_option Elab.async false
set_option linter.all false
set_option maxRecDepth 100000
namespace Fx
open PySem L2 PyProof.Rows
/-! ### data as the library has it -/
mutual
def toPy : D → Option PyData
  | .non => some .none
  | .bl b => some (.bool b)
  | .int i => some (.int i)
  | .str x => some (.str x)
  | .tup xs => (toPyL xs).map .tuple
  | .lst xs => (toPyL xs).map .list
  | _ => none
def toPyL : List D → Option (List PyData)
  | [] => some []
  | x :: xs => match toPy x, toPyL xs with
    | some d, some ds => some (d :: ds)
    | _, _ => none
end
mutual
theorem Rp.dp {K : PySem.W.Frag} {M : MS} {H : Hp} : ∀ {v : V} {d : D} {p : PyData}, Rp K M H v d → toPy d = some p → Dp K H v p
  | _, _, _, .non, e => by unfold toPy at e; cases e; exact .non
  | _, _, _, .bl b, e => by unfold toPy at e; cases e; exact .bl b
  | _, _, _, .int i, e => by unfold toPy at e; cases e; exact .int i
  | _, _, _, .str x, e => by unfold toPy at e; cases e; exact .str x
  | _, _, _, .ty n, e => by unfold toPy at e; cases e
  | _, _, _, .ref a, e => by unfold toPy at e; cases e
  | _, .lst xs, _, .lst h n l, e => by
    unfold toPy at e
    cases h2 : toPyL xs with
    | none => rw [h2] at e; cases e
    | some ps => rw [h2] at e; cases e; exact .lst (.of h) (RpL.dp l h2)
  | _, _, _, .fz h n l, e => by unfold toPy at e; cases e
  | _, _, _, .fzK h l, e => by unfold toPy at e; cases e
  | _, .tup xs, _, .tup h l, e => by
    unfold toPy at e
    cases h2 : toPyL xs with
    | none => rw [h2] at e; cases e
    | some ps => rw [h2] at e; cases e; exact .tup (.of h) (RpL.dp l h2)
  | _, .tup xs, _, .tupK h l, e => by
    unfold toPy at e
    cases h2 : toPyL xs with
    | none => rw [h2] at e; cases e
    | some ps => rw [h2] at e; cases e; exact .tup (h.sq H) (RpL.dp l h2)
  | _, _, _, .ins h n q l, e => by unfold toPy at e; cases e
theorem RpL.dp {K : PySem.W.Frag} {M : MS} {H : Hp} : ∀ {vs : List V} {ds : List D} {ps : List PyData}, RpL K M H vs ds → toPyL ds = some ps → DpAll K H vs ps
  | _, _, _, .nil, e => by unfold toPyL at e; cases e; exact .nil
  | _, d :: ds, _, .cons h t, e => by
    unfold toPyL at e
    split at e
    · rename_i h1 h2
      cases e
      exact .cons (Rp.dp h h1) (RpL.dp t h2)
    · cases e
end

/-! ### arithmetic -/
theorem OpR.or {X : Cx} {f : Value → Value → Sem Value} {r r' : R2} (h : OpR X f r) (h' : OpR X f r') : OpR X f (fun x y H Q => r x y H Q ∨ r' x y H Q) := fun pins s σ H x y v u Q I rx ry q => q.elim (h pins s σ H x y v u Q I rx ry) (h' pins s σ H x y v u Q I rx ry)
theorem CallR.or {X : Cx} {f : Value} {r r' : List V → Hp → VK → Prop} (h : CallR X f r) (h' : CallR X f r') : CallR X f (fun xs H Q => r xs H Q ∨ r' xs H Q) := fun pins s σ H xs us Q I rs q => q.elim (h pins s σ H xs us Q I rs) (h' pins s σ H xs us Q I rs)
theorem Op2.or {K : PySem.W.Frag} {r r' : R2} {o : D → D → Option D} (h : ∀ (x y d : D), o x y = some d → ∀ (M : MS) (H : Hp) (v u : V) (Q : VK), MOk M H → Rp K M H v x → Rp K M H u y → (∀ w H', Same H H' → Rp K M H' w d → Q w H') → r v u H Q ∨ r' v u H Q) : Op2 K (fun x y H Q => r x y H Q ∨ r' x y H Q) o := h
theorem same_rfl {H : Hp} : Same H H := fun _ _ h => h
section
variable {X : Cx} {K : PySem.W.Frag}
def addD : D → D → Option D
  | .int i, .int j => some (.int (i + j))
  | .str a, .str b => if a.length + b.length ≤ sizeLine then some (.str (a ++ b)) else none
  | .lst xs, .lst ys => if xs.length + ys.length ≤ sizeLine then some (.lst (xs ++ ys)) else none
  | .tup xs, .tup ys => if xs.length + ys.length ≤ sizeLine then some (.tup (xs ++ ys)) else none
  | _, _ => none
theorem op_addD : ∃ r, OpR X (binaryOp .Add) r ∧ Op2 X.K r addD := by
  refine ⟨_, OpR.or op_add (OpR.or op_add_str (OpR.or op_cat op_catA)), fun x y d e M H v u Q m qx qy k => ?_⟩
  unfold addD at e
  split at e
  · cases e
    cases qx
    cases qy
    exact .inl ⟨_, _, rfl, rfl, k _ H same_rfl (.int _)⟩
  · split at e
    · rename_i hz
      cases e
      cases qx
      cases qy
      exact .inr (.inl ⟨_, _, rfl, rfl, hz, k _ H same_rfl (.str _)⟩)
    · cases e
  · split at e
    · rename_i hz
      cases e
      cases qx with
      | lst h1 n1 l1 =>
        cases qy with
        | lst h2 n2 l2 => exact .inr (.inr (.inl ⟨_, _, _, _, rfl, rfl, h1, h2, by rw [l1.length, l2.length]; exact hz, fun p hp => k _ _ (same_upd hp) (new_lst m hp (l1.append l2))⟩))
    · cases e
  · split at e
    · rename_i xs ys hz
      cases e
      obtain ⟨a, vs, rfl, hq1, l1⟩ := qx.seqT
      obtain ⟨b, ws, rfl, hq2, l2⟩ := qy.seqT
      refine .inr (.inr (.inr ⟨a, b, vs, ws, rfl, rfl, hq1, hq2, by rw [l1.length, l2.length]; exact hz, fun z => ?_, fun _ z => ?_, fun _ _ p hp => k _ _ (same_upd hp) (new_tup m hp (l1.append l2))⟩))
      · have : xs = [] := by
          have := l1.length
          rw [z] at this
          cases xs with
          | nil => rfl
          | cons _ _ => simp at this
        subst this
        exact k _ H same_rfl qy
      · have : ys = [] := by
          have := l2.length
          rw [z] at this
          cases ys with
          | nil => rfl
          | cons _ _ => simp at this
        subst this
        exact k _ H same_rfl (by rw [List.append_nil]; exact qx)
    · cases e
  · cases e
def subD : D → D → Option D
  | .int i, .int j => some (.int (i - j))
  | _, _ => none
theorem op_subD : ∃ r, OpR X (binaryOp .Sub) r ∧ Op2 X.K r subD := by
  refine ⟨_, op_sub, fun x y d e M H v u Q m qx qy k => ?_⟩
  unfold subD at e
  split at e
  · cases e
    cases qx
    cases qy
    exact ⟨_, _, rfl, rfl, k _ H same_rfl (.int _)⟩
  · cases e
instance {i j : Int} : Decidable (CMul i j) := by unfold CMul; exact inferInstance
instance {i j : Int} : Decidable (CMulW i j) := by unfold CMulW; exact inferInstance
def mulD : D → D → Option D
  | .int i, .int j => if CMul i j ∨ CMulW i j then some (.int (i * j)) else none
  | .lst xs, .int k => if -(2 ^ 63) ≤ k ∧ k < 2 ^ 63 ∧ xs.length * k.toNat ≤ sizeLine then some (.lst (List.replicate k.toNat xs).flatten) else none
  | _, _ => none
theorem RpL.rep {M : MS} {H : Hp} {vs : List V} {ds : List D} (l : RpL K M H vs ds) : ∀ n, RpL K M H (List.replicate n vs).flatten (List.replicate n ds).flatten
  | 0 => .nil
  | n + 1 => by
    rw [List.replicate_succ, List.replicate_succ, List.flatten_cons, List.flatten_cons]
    exact l.append (RpL.rep l n)
theorem op_mulD : ∃ r, OpR X (binaryOp .Mult) r ∧ Op2 X.K r mulD := by
  refine ⟨_, OpR.or op_mul (OpR.or op_mulW op_rep), fun x y d e M H v u Q m qx qy k => ?_⟩
  unfold mulD at e
  split at e
  · split at e
    · rename_i hc
      cases e
      cases qx
      cases qy
      rcases hc with hc | hc
      · exact .inl ⟨_, _, rfl, rfl, hc, k _ H same_rfl (.int _)⟩
      · exact .inr (.inl ⟨_, _, rfl, rfl, hc, k _ H same_rfl (.int _)⟩)
    · cases e
  · split at e
    · rename_i hc
      cases e
      cases qy
      cases qx with
      | lst h1 n1 l1 => exact .inr (.inr ⟨_, _, _, rfl, rfl, h1, hc.1, hc.2.1, by rw [l1.length]; exact hc.2.2, fun p hp => k _ _ (same_upd hp) (new_lst m hp (RpL.rep l1 _))⟩)
    · cases e
  · cases e
def fdivD : D → D → Option D
  | .int i, .int j => if 0 < j ∧ j.natAbs.log2 < 9000 then some (.int (i / j)) else none
  | _, _ => none
theorem op_fdivD : ∃ r, OpR X (binaryOp .FloorDiv) r ∧ Op2 X.K r fdivD := by
  refine ⟨_, op_fdivW, fun x y d e M H v u Q m qx qy k => ?_⟩
  unfold fdivD at e
  split at e
  · split at e
    · rename_i hc
      cases e
      cases qx
      cases qy
      exact ⟨_, _, rfl, rfl, hc, k _ H same_rfl (.int _)⟩
    · cases e
  · cases e
def modD : D → D → Option D
  | .int i, .int j => if 0 < j then some (.int (i % j)) else none
  | _, _ => none
theorem op_modD : ∃ r, OpR X (binaryOp .Mod) r ∧ Op2 X.K r modD := by
  refine ⟨_, op_mod, fun x y d e M H v u Q m qx qy k => ?_⟩
  unfold modD at e
  split at e
  · split at e
    · rename_i hc
      cases e
      cases qx
      cases qy
      exact ⟨_, _, rfl, rfl, hc, k _ H same_rfl (.int _)⟩
    · cases e
  · cases e
def powD : D → D → Option D
  | .int i, .int j => if 0 ≤ j ∧ j ≤ 1000000 ∧ i.natAbs < 2 ^ 64 then some (.int (i ^ j.toNat)) else none
  | _, _ => none
theorem op_powD : ∃ r, OpR X (binaryOp .Pow) r ∧ Op2 X.K r powD := by
  refine ⟨_, op_pow, fun x y d e M H v u Q m qx qy k => ?_⟩
  unfold powD at e
  split at e
  · split at e
    · rename_i hc
      cases e
      cases qx
      cases qy
      exact ⟨_, _, rfl, rfl, hc, k _ H same_rfl (.int _)⟩
    · cases e
  · cases e
def negD : D → Option D
  | .int i => some (.int (-i))
  | _ => none
theorem op_negD : ∃ r, UnR X (unaryOp .USub) r ∧ Op1 X.K r negD := by
  refine ⟨_, un_neg, fun x d e M H v Q m qx k => ?_⟩
  unfold negD at e
  split at e
  · cases e
    cases qx
    exact ⟨_, rfl, k _ H same_rfl (.int _)⟩
  · cases e

/-! ### comparisons -/
def cmpD (p : Int → Int → Bool) : D → D → Option D
  | .int i, .int j => some (.bl (p i j))
  | _, _ => none
theorem cmp_op {p : Int → Int → Bool} : Op2 K (rI0 fun i j => .bl (p i j)) (cmpD p) := fun x y d e M H v u Q m qx qy k => by
  unfold cmpD at e
  split at e
  · cases e
    cases qx
    cases qy
    exact ⟨_, _, rfl, rfl, k _ H same_rfl (.bl _)⟩
  · cases e
abbrev ltD := cmpD fun i j => decide (i < j)
abbrev leD := cmpD fun i j => decide (i ≤ j)
abbrev gtD := cmpD fun i j => decide (j < i)
abbrev geD := cmpD fun i j => decide (j ≤ i)
theorem op_ltD : ∃ r, OpR X (compareOp .Lt) r ∧ Op2 X.K r ltD := ⟨_, op_lt, cmp_op⟩
theorem op_leD : ∃ r, OpR X (compareOp .LtE) r ∧ Op2 X.K r leD := ⟨_, op_le, cmp_op⟩
theorem op_gtD : ∃ r, OpR X (compareOp .Gt) r ∧ Op2 X.K r gtD := ⟨_, op_gt, cmp_op⟩
theorem op_geD : ∃ r, OpR X (compareOp .GtE) r ∧ Op2 X.K r geD := ⟨_, op_ge, cmp_op⟩
def eqG (x y : D) : Option D := match toPy x, toPy y with
  | some a, some b => if SeqAt.shaped a = true ∧ SeqAt.shaped b = true then some (.bl (PyData.eqv a b)) else none
  | _, _ => none
def neG (x y : D) : Option D := match toPy x, toPy y with
  | some a, some b => if SeqAt.shaped a = true ∧ SeqAt.shaped b = true then some (.bl (!PyData.eqv a b)) else none
  | _, _ => none
def eqD : D → D → Option D
  | .int i, .int j => some (.bl (decide (i = j)))
  | .str x, .str y => some (.bl (decide (x = y)))
  | x, y => eqG x y
def neD : D → D → Option D
  | .int i, .int j => some (.bl (!decide (i = j)))
  | .str x, .str y => some (.bl (!decide (x = y)))
  | x, y => neG x y
theorem decInt {i j : Int} : decide (V.int i = V.int j) = decide (i = j) := decide_eq_decide.mpr ⟨V.int.inj, fun h => h ▸ rfl⟩
theorem decStr {i j : Str} : decide (V.str i = V.str j) = decide (i = j) := decide_eq_decide.mpr ⟨V.str.inj, fun h => h ▸ rfl⟩
theorem op_eqDD (hu : X.A.units + 64 < cLine) : ∃ r, OpR X (compareOp .Eq) r ∧ Op2 X.K r eqD := by
  refine ⟨_, OpR.or op_eq (op_eqD hu), fun x y d e M H v u Q m qx qy k => ?_⟩
  unfold eqD at e
  split at e
  · cases e
    cases qx
    cases qy
    exact .inl ⟨rfl, by rw [decInt]; exact k _ H same_rfl (.bl _)⟩
  · cases e
    cases qx
    cases qy
    exact .inl ⟨rfl, by rw [decStr]; exact k _ H same_rfl (.bl _)⟩
  · unfold eqG at e
    split at e
    · split at e
      · rename_i a b ha hb hc
        cases e
        exact .inr ⟨a, b, qx.dp ha, qy.dp hb, hc.1, hc.2, k _ H same_rfl (.bl _)⟩
      · cases e
    · cases e
theorem op_neDD (hu : X.A.units + 64 < cLine) : ∃ r, OpR X (compareOp .NotEq) r ∧ Op2 X.K r neD := by
  refine ⟨_, OpR.or op_ne (op_neD hu), fun x y d e M H v u Q m qx qy k => ?_⟩
  unfold neD at e
  split at e
  · cases e
    cases qx
    cases qy
    exact .inl ⟨rfl, by rw [decInt]; exact k _ H same_rfl (.bl _)⟩
  · cases e
    cases qx
    cases qy
    exact .inl ⟨rfl, by rw [decStr]; exact k _ H same_rfl (.bl _)⟩
  · unfold neG at e
    split at e
    · split at e
      · rename_i a b ha hb hc
        cases e
        exact .inr ⟨a, b, qx.dp ha, qy.dp hb, hc.1, hc.2, k _ H same_rfl (.bl _)⟩
      · cases e
    · cases e
/-- is None; is True -/
def isNonD : D → Bool
  | .non => true
  | _ => false
theorem Rp.non_iff {M : MS} {H : Hp} {v : V} {d : D} (q : Rp K M H v d) : decide (v = .non) = isNonD d := by cases q <;> rfl
def isD : D → D → Option D
  | x, .non => some (.bl (isNonD x))
  | .bl a, .bl b => some (.bl (decide (a = b)))
  | _, _ => none
def isNotD : D → D → Option D
  | x, .non => some (.bl (!isNonD x))
  | .bl a, .bl b => some (.bl (!decide (a = b)))
  | _, _ => none
theorem op_isD : ∃ r, OpR X (compareOp .Is) r ∧ Op2 X.K r isD := by
  refine ⟨_, OpR.or op_isN op_is_bl, fun x y d e M H v u Q m qx qy k => ?_⟩
  unfold isD at e
  split at e
  · cases e
    cases qy
    exact .inl ⟨rfl, by rw [qx.non_iff]; exact k _ H same_rfl (.bl _)⟩
  · cases e
    cases qx
    cases qy
    exact .inr ⟨_, _, rfl, rfl, k _ H same_rfl (.bl _)⟩
  · cases e
theorem op_isNotD : ∃ r, OpR X (compareOp .IsNot) r ∧ Op2 X.K r isNotD := by
  refine ⟨_, OpR.or op_notN op_isnot_bl, fun x y d e M H v u Q m qx qy k => ?_⟩
  unfold isNotD at e
  split at e
  · cases e
    cases qy
    exact .inl ⟨rfl, by rw [qx.non_iff]; exact k _ H same_rfl (.bl _)⟩
  · cases e
    cases qx
    cases qy
    exact .inr ⟨_, _, rfl, rfl, k _ H same_rfl (.bl _)⟩
  · cases e
/-- in -/
def flatD : D → Bool
  | .non => true
  | .bl _ => true
  | .int _ => true
  | .str _ => true
  | _ => false
def eqFD : D → D → Bool
  | .non, .non => true
  | .bl a, .bl b => a == b
  | .bl a, .int b => (if a then 1 else 0) == b
  | .int a, .bl b => a == (if b then 1 else 0)
  | .int a, .int b => a == b
  | .str a, .str b => a == b
  | _, _ => false
theorem Rp.flat {M : MS} {H : Hp} {v : V} {d : D} (q : Rp K M H v d) (h : flatD d = true) : flatV v = true := by cases q <;> first | rfl | exact h
theorem RpL.flat {M : MS} {H : Hp} : ∀ {vs : List V} {ds : List D}, RpL K M H vs ds → ds.all flatD = true → vs.all flatV = true
  | _, _, .nil, _ => rfl
  | _, _, .cons q t, h => by
    rw [List.all_cons, Bool.and_eq_true] at h
    rw [List.all_cons, q.flat h.1, t.flat h.2]
    rfl
theorem Rp.eqF {M : MS} {H : Hp} {v u : V} {d e : D} (q : Rp K M H v d) (p : Rp K M H u e) (h1 : flatD d = true) (h2 : flatD e = true) : eqV v u = eqFD d e := by
  cases q <;> first | (cases p <;> first | rfl | exact absurd h2 Bool.false_ne_true) | exact absurd h1 Bool.false_ne_true
theorem RpL.inF {M : MS} {H : Hp} {x : V} {d : D} (q : Rp K M H x d) (hd : flatD d = true) : ∀ {vs : List V} {ds : List D}, RpL K M H vs ds → ds.all flatD = true → inV x vs = ds.any (fun y => eqFD y d)
  | _, _, .nil, _ => rfl
  | v :: vs, e :: ds, .cons p t, h => by
    rw [List.all_cons, Bool.and_eq_true] at h
    have ih := RpL.inF q hd t h.2
    unfold inV at ih ⊢
    rw [List.any_cons, List.any_cons, ih, p.eqF q h.1 hd]
def inD (neg : Bool) : D → D → Option D
  | x, .tup ds => if flatD x = true ∧ ds.all flatD = true then some (.bl (if neg then !(ds.any fun y => eqFD y x) else ds.any fun y => eqFD y x)) else none
  | x, .lst ds => if flatD x = true ∧ ds.all flatD = true then some (.bl (if neg then !(ds.any fun y => eqFD y x) else ds.any fun y => eqFD y x)) else none
  | .str ⟨c⟩, .str z => match c.toList with
    | [c] => some (.bl (if neg then !decide (c ∈ z.cps.toList) else decide (c ∈ z.cps.toList)))
    | _ => none
  | _, _ => none
theorem inD_op {neg : Bool} {r : R2} (hr : ∀ (c : Nat) (z : Str) (H : Hp) (Q : VK), Q (.bl (if neg then !decide (c ∈ z.cps.toList) else decide (c ∈ z.cps.toList))) H → r (.str ⟨#[c]⟩) (.str z) H Q) : Op2 K (fun x y H Q => rIn K neg x y H Q ∨ r x y H Q) (inD neg) := fun x y d e M H v u Q m qx qy k => by
  unfold inD at e
  split at e
  · split at e
    · rename_i ds hc
      cases e
      obtain ⟨a, vs, rfl, hq, l⟩ := qy.seqT
      exact .inl ⟨a, vs, rfl, .inr hq, qx.flat hc.1, l.flat hc.2, by rw [RpL.inF qx hc.1 l hc.2]; exact k _ H same_rfl (.bl _)⟩
    · cases e
  · split at e
    · rename_i ds hc
      cases e
      obtain ⟨a, vs, rfl, hq, l⟩ := qy.seq
      exact .inl ⟨a, vs, rfl, .inl hq, qx.flat hc.1, l.flat hc.2, by rw [RpL.inF qx hc.1 l hc.2]; exact k _ H same_rfl (.bl _)⟩
    · cases e
  · split at e
    · rename_i c0 z l c hc
      cases e
      cases qx
      cases qy
      have : c0 = #[c] := by rw [← hc]
      subst this
      exact .inr (hr c z H Q (k _ H same_rfl (.bl _)))
    · cases e
  · cases e
theorem op_inD : ∃ r, OpR X (compareOp .In) r ∧ Op2 X.K r (inD false) := ⟨_, OpR.or op_in_seq op_in_sign, inD_op fun c z H Q q => ⟨c, z, rfl, rfl, q⟩⟩
theorem op_notInD : ∃ r, OpR X (compareOp .NotIn) r ∧ Op2 X.K r (inD true) := ⟨_, OpR.or op_notIn_seq op_notIn_sign, inD_op fun c z H Q q => ⟨c, z, rfl, rfl, q⟩⟩

/-! ### places, slices -/
def ixD : D → D → Option D
  | .lst ds, .int i => atD ds i
  | .fz ds, .int i => atD ds i
  | .tup ds, .int i => atD ds i
  | .str z, .int i => if z.length ≤ sizeLine then (atI z.cps.toList i).map fun c => .str ⟨#[c]⟩ else none
  | _, _ => none
theorem ix_op : Op2 X.K (rIx X.K) ixD := fun x y d e M H v u Q m qx qy k => by
  unfold ixD at e
  split at e
  · cases qy
    obtain ⟨a, vs, rfl, hq, l⟩ := qx.seq
    obtain ⟨w, hw, q⟩ := atD.run l e
    exact .inl ⟨a, vs, _, w, rfl, rfl, hq, hw, k _ H same_rfl q⟩
  · cases qy
    cases qx with
    | fz h n l =>
      obtain ⟨w, hw, q⟩ := atD.run l e
      exact .inl ⟨_, _, _, w, rfl, rfl, .inl h, hw, k _ H same_rfl q⟩
    | fzK h l =>
      obtain ⟨w, hw, q⟩ := atD.run l e
      exact .inl ⟨_, _, _, w, rfl, rfl, h H, hw, k _ H same_rfl q⟩
  · cases qy
    obtain ⟨a, vs, rfl, hq, l⟩ := qx.seqT
    obtain ⟨w, hw, q⟩ := atD.run l e
    exact .inr (.inl ⟨a, vs, _, w, rfl, rfl, hq, hw, k _ H same_rfl q⟩)
  · split at e
    · rename_i z i hz
      cases qx
      cases qy
      cases hc : atI z.cps.toList i with
      | none => rw [hc] at e; cases e
      | some c =>
        rw [hc] at e
        cases e
        exact .inr (.inr ⟨z, i, c, rfl, rfl, hz, hc, k _ H same_rfl (.str _)⟩)
    · cases e
  · cases e
theorem se_ix {B : Bs} {W : WX} {a b : Expr} {f g : F D} {pos : Pos} (hK : X.K = B.K) (ha : SE X B W a f) (hb : SE X B W b g) (hs : PlainIx b := by exact fun _ _ => rfl) : SE X B W (.Subscript a b pos) (op2F ixD f g) :=
  PE.imp (pe_ix ix_seq ha hb hs) fun σ H Q p => two_run (hK ▸ ix_op) p
def cutD (ds : List D) (lo hi : Option Int) : List D := (ds.drop (HT.sIx ds.length 0 lo)).take (HT.sIx ds.length ds.length hi - HT.sIx ds.length 0 lo)
theorem RpL.cut {M : MS} {H : Hp} {vs : List V} {ds : List D} (l : RpL K M H vs ds) (lo hi : Option Int) : RpL K M H (cutV vs lo hi) (cutD ds lo hi) := by
  unfold cutV cutD
  rw [l.length]
  exact (l.drop _).take _
def slD : D → Option Int → Option Int → Option D
  | .lst ds, lo, hi => some (.lst (cutD ds lo hi))
  | .fz ds, lo, hi => some (.lst (cutD ds lo hi))
  | .tup ds, lo, hi => if HT.sIx ds.length 0 lo = 0 ∧ HT.sIx ds.length ds.length hi = ds.length then some (.tup ds) else some (.tup (cutD ds lo hi))
  | .str z, lo, hi => if z.length ≤ sizeLine then some (.str (cutS z lo hi)) else none
  | _, _, _ => none
def noPartF : F (Option Int) := fun s => .ok none s
def partF (f : F D) : F (Option Int) := fun s => (f s).bind fun d s1 => match d with
  | .int i => .ok (some i) s1
  | _ => .no
def slF (f : F D) (lo hi : F (Option Int)) : F D := fun s => (f s).bind fun d s1 => (lo s1).bind fun l s2 => (hi s2).bind fun h s3 => toR (slD d l h) s3
theorem PO.imp {e : Option Expr} {t u : TO} (h : PO X e t) (k : ∀ σ H Q, u σ H Q → t σ H Q) : PO X e u := ⟨fun pins s σ H Q I q => h.run pins s σ H Q I (k σ H Q q)⟩
theorem so_none {B : Bs} {W : WX} : SO X B W none noPartF := PO.imp po_none fun σ H Q ⟨M, s, r, p⟩ => p.out r rfl
theorem so_some {B : Bs} {W : WX} {e : Expr} {f : F D} (h : SE X B W e f) : SO X B W (some e) (partF f) := PO.imp (po_some h) fun σ H Q ⟨M, s, r, p⟩ => ⟨M, s, r, Post.bind p fun d s1 M1 H1 v r1 q1 ev1 p1 => by
  split at p1
  · cases q1
    exact ⟨_, rfl, p1.out r1 rfl⟩
  · exact p1.elim⟩
theorem se_sl {B : Bs} {W : WX} {e : Expr} {lo hi : Option Expr} {f : F D} {fl fh : F (Option Int)} {p2 pos : Pos} (hK : X.K = B.K) (h : SE X B W e f) (hl : SO X B W lo fl) (hh : SO X B W hi fh) : SE X B W (.Subscript e (.Slice lo hi none p2) pos) (slF f fl fh) := by
  refine PE.imp (pe_slice (SlR.or sl_list (SlR.or sl_tupA sl_str)) h hl hh) fun σ H Q ⟨M, s, r, p⟩ => ⟨M, s, r, Post.bind p fun d s1 M1 H1 v r1 q1 ev1 p1 => ⟨M1, s1, r1, Post.bind p1 fun l s2 M2 H2 l' r2 q2 ev2 p2 => ⟨M2, s2, r2, Post.bind p2 fun u s3 M3 H3 u' r3 q3 ev3 p3 => ?_⟩⟩⟩
  have q2 : l' = l := q2
  have q3 : u' = u := q3
  subst q2 q3
  have q1 : Rp B.K M3 H3 v d := (Rp.move r1.mo ev2 q1).move r2.mo ev3
  unfold toR at p3
  split at p3
  · rename_i d' e
    unfold slD at e
    split at e
    · cases e
      obtain ⟨a, vs, rfl, hq, ll⟩ := q1.seq
      exact .inl ⟨a, vs, rfl, hK ▸ hq, fun p hp => p3.grow r3 (same_upd hp) (new_lst r3.mo hp (ll.cut _ _))⟩
    · cases e
      cases q1 with
      | fz h n ll => exact .inl ⟨_, _, rfl, .inl h, fun p hp => p3.grow r3 (same_upd hp) (new_lst r3.mo hp (ll.cut _ _))⟩
      | fzK h ll => exact .inl ⟨_, _, rfl, hK ▸ h H3, fun p hp => p3.grow r3 (same_upd hp) (new_lst r3.mo hp (ll.cut _ _))⟩
    · obtain ⟨a, vs, rfl, hq, ll⟩ := q1.seqT
      refine .inr (.inl ⟨a, vs, rfl, hK ▸ hq, fun z => ?_, fun z p hp => ?_⟩)
      · rw [ll.length] at z
        rw [if_pos z] at e
        cases e
        exact p3.out r3 q1
      · rw [ll.length] at z
        rw [if_neg z] at e
        cases e
        exact p3.grow r3 (same_upd hp) (new_tup r3.mo hp (ll.cut _ _))
    · split at e
      · rename_i hz
        cases e
        cases q1
        exact .inr (.inr ⟨_, rfl, hz, p3.out r3 (.str _)⟩)
      · cases e
    · cases e
  · exact p3.elim
end
end Fx

set_option Elab.async false
set_option linter.all false
set_option maxRecDepth 100000
namespace Fx
open PySem L2 PyProof.Rows
section
variable {X : Cx}
/-! ### built-ins -/
def lenD : List D → Option D
  | [.lst ds] => some (.int ds.length)
  | [.fz ds] => some (.int ds.length)
  | [.tup ds] => some (.int ds.length)
  | [.str z] => if z.length ≤ sizeLine then some (.int z.length) else none
  | _ => none
theorem RpL.one {K : PySem.W.Frag} {M : MS} {H : Hp} {vs : List V} {d : D} (h : RpL K M H vs [d]) : ∃ v, vs = [v] ∧ Rp K M H v d := by
  cases h with
  | cons q t => cases t; exact ⟨_, rfl, q⟩
theorem RpL.two {K : PySem.W.Frag} {M : MS} {H : Hp} {vs : List V} {d e : D} (h : RpL K M H vs [d, e]) : ∃ v u, vs = [v, u] ∧ Rp K M H v d ∧ Rp K M H u e := by
  cases h with
  | cons q t =>
    obtain ⟨u, e, p⟩ := t.one
    subst e
    exact ⟨_, _, rfl, q, p⟩
theorem c_len : ∃ r, CallR X (.builtin "len") r ∧ OpN X.K r lenD := by
  refine ⟨_, call_len, fun xs d e M H vs Q m qs k => ?_⟩
  unfold lenD at e
  split at e
  · cases e
    obtain ⟨v, rfl, q⟩ := qs.one
    obtain ⟨a, ws, rfl, hq, l⟩ := q.seq
    exact ⟨_, _, rfl, .inl ⟨ws, hq, l.length.symm⟩, k _ H same_rfl (.int _)⟩
  · cases e
    obtain ⟨v, rfl, q⟩ := qs.one
    cases q with
    | fz h n l => exact ⟨_, _, rfl, .inl ⟨_, .inl h, l.length.symm⟩, k _ H same_rfl (.int _)⟩
    | fzK h l => exact ⟨_, _, rfl, .inl ⟨_, h H, l.length.symm⟩, k _ H same_rfl (.int _)⟩
  · cases e
    obtain ⟨v, rfl, q⟩ := qs.one
    obtain ⟨a, ws, rfl, hq, l⟩ := q.seqT
    exact ⟨_, _, rfl, .inr ⟨ws, hq, l.length.symm⟩, k _ H same_rfl (.int _)⟩
  · split at e
    · rename_i z hz
      cases e
      obtain ⟨v, rfl, q⟩ := qs.one
      cases q
      exact ⟨_, _, rfl, ⟨hz, rfl⟩, k _ H same_rfl (.int _)⟩
    · cases e
  · cases e
def intD : List D → Option D
  | [.int i] => some (.int i)
  | [.bl b] => some (.int (if b then 1 else 0))
  | _ => none
theorem c_int : ∃ r, CallR X (.type "int") r ∧ OpN X.K r intD := by
  refine ⟨_, call_int1, fun xs d e M H vs Q m qs k => ?_⟩
  unfold intD at e
  split at e
  · cases e
    obtain ⟨v, rfl, q⟩ := qs.one
    cases q
    exact .inl ⟨_, rfl, k _ H same_rfl (.int _)⟩
  · cases e
    obtain ⟨v, rfl, q⟩ := qs.one
    cases q
    exact .inr ⟨_, rfl, k _ H same_rfl (.int _)⟩
  · cases e
def boolD : List D → Option D
  | [.int i] => some (.bl (i != 0))
  | [.bl b] => some (.bl b)
  | _ => none
theorem c_bool : ∃ r, CallR X (.type "bool") r ∧ OpN X.K r boolD := by
  refine ⟨_, call_bool1, fun xs d e M H vs Q m qs k => ?_⟩
  unfold boolD at e
  split at e
  · cases e
    obtain ⟨v, rfl, q⟩ := qs.one
    cases q
    exact .inl ⟨_, rfl, k _ H same_rfl (.bl _)⟩
  · cases e
    obtain ⟨v, rfl, q⟩ := qs.one
    cases q
    exact .inr ⟨_, rfl, k _ H same_rfl (.bl _)⟩
  · cases e
def absD : List D → Option D
  | [.int i] => some (.int (if i < 0 then -i else i))
  | _ => none
theorem c_abs : ∃ r, CallR X (.builtin "abs") r ∧ OpN X.K r absD := by
  refine ⟨_, call_abs, fun xs d e M H vs Q m qs k => ?_⟩
  unfold absD at e
  split at e
  · cases e
    obtain ⟨v, rfl, q⟩ := qs.one
    cases q
    exact ⟨_, rfl, k _ H same_rfl (.int _)⟩
  · cases e
def divmodD : List D → Option D
  | [.int i, .int j] => if 0 < j ∧ j < 1073741824 then some (.tup [.int (i / j), .int (i % j)]) else none
  | _ => none
theorem c_divmod : ∃ r, CallR X (.builtin "divmod") r ∧ OpN X.K r divmodD := by
  refine ⟨_, call_divmod, fun xs d e M H vs Q m qs k => ?_⟩
  unfold divmodD at e
  split at e
  · split at e
    · rename_i hc
      cases e
      obtain ⟨v, u, rfl, q1, q2⟩ := qs.two
      cases q1
      cases q2
      exact ⟨_, _, rfl, hc, fun p hp => k _ _ (same_upd hp) (new_tup m hp (.cons (.int _) (.cons (.int _) .nil)))⟩
    · cases e
  · cases e
/-- list(x), tuple(x) -/
def listN : List D → Option (List D)
  | [.lst ds] => some ds
  | [.fz ds] => some ds
  | [.tup ds] => some ds
  | _ => none
theorem c_list : ∃ r, CallR X (.type "list") r ∧ OpW X.K r listN := by
  refine ⟨_, call_list_of, fun xs ds e M H vs Q m qs k => ?_⟩
  unfold listN at e
  split at e
  · cases e
    obtain ⟨v, rfl, q⟩ := qs.one
    obtain ⟨a, ws, rfl, hq, l⟩ := q.seq
    exact ⟨a, ws, rfl, .inl hq, fun p hp => k p ws H same_rfl hp l⟩
  · cases e
    obtain ⟨v, rfl, q⟩ := qs.one
    cases q with
    | fz h n l => exact ⟨_, _, rfl, .inl (.inl h), fun p hp => k p _ H same_rfl hp l⟩
    | fzK h l => exact ⟨_, _, rfl, .inl (h H), fun p hp => k p _ H same_rfl hp l⟩
  · cases e
    obtain ⟨v, rfl, q⟩ := qs.one
    obtain ⟨a, ws, rfl, hq, l⟩ := q.seqT
    exact ⟨a, ws, rfl, .inr hq, fun p hp => k p ws H same_rfl hp l⟩
  · cases e
def tupleD : List D → Option D
  | [.lst ds] => some (.tup ds)
  | [.fz ds] => some (.tup ds)
  | [.tup ds] => some (.tup ds)
  | _ => none
theorem c_tuple : ∃ r, CallR X (.type "tuple") r ∧ OpN X.K r tupleD := by
  refine ⟨_, call_tuple_of, fun xs d e M H vs Q m qs k => ?_⟩
  unfold tupleD at e
  split at e
  · cases e
    obtain ⟨v, rfl, q⟩ := qs.one
    obtain ⟨a, ws, rfl, hq, l⟩ := q.seq
    exact ⟨a, ws, rfl, .inl ⟨hq, fun p hp => k _ _ (same_upd hp) (new_tup m hp l)⟩⟩
  · cases e
    obtain ⟨v, rfl, q⟩ := qs.one
    cases q with
    | fz h n l => exact ⟨_, _, rfl, .inl ⟨.inl h, fun p hp => k _ _ (same_upd hp) (new_tup m hp l)⟩⟩
    | fzK h l => exact ⟨_, _, rfl, .inl ⟨h H, fun p hp => k _ _ (same_upd hp) (new_tup m hp l)⟩⟩
  · cases e
    obtain ⟨v, rfl, q⟩ := qs.one
    have q0 := q
    obtain ⟨a, ws, rfl, hq, l⟩ := q.seqT
    exact ⟨a, ws, rfl, .inr ⟨hq, k _ H same_rfl q0⟩⟩
  · cases e
/-- isinstance -/
def tyD : D → Option String
  | .non => some "NoneType"
  | .bl _ => some "bool"
  | .int _ => some "int"
  | .str _ => some "str"
  | .lst _ => some "list"
  | .tup _ => some "tuple"
  | _ => none
theorem Rp.tyx {K : PySem.W.Frag} {M : MS} {H : Hp} {v : V} {d : D} {t : String} (q : Rp K M H v d) (h : tyD d = some t) : TyX K H v (.type t) := by
  cases q with
  | non => cases h; exact .base .non
  | bl b => cases h; exact .base (.bl b)
  | int i => cases h; exact .base (.int i)
  | str x => cases h; exact .base (.str x)
  | lst h1 n l => cases h; exact .base (.lst h1)
  | tup h1 l => cases h; exact .base (.tup h1)
  | tupK h1 l =>
    cases h
    obtain ⟨o, its, n, h1, h2, _⟩ := h1
    exact .kTuple h1 h2
  | _ => cases h
def tysD : List D → Option (List String)
  | [] => some []
  | .ty n :: ds => (tysD ds).map (n :: ·)
  | _ => none
def anyTy (t : String) : List String → Option Bool
  | [] => some false
  | n :: ns => match kitB t n with
    | some true => some true
    | some false => anyTy t ns
    | none => none
def isiD : List D → Option D
  | [x, .ty n] => match tyD x with
    | some t => (kitB t n).map .bl
    | none => none
  | [x, .tup ds] => match tyD x, tysD ds with
    | some t, some ns => (anyTy t ns).map .bl
    | _, _ => none
  | _ => none
theorem tysD.run {K : PySem.W.Frag} {M : MS} {H : Hp} : ∀ {ds : List D} {vs : List V} {ns : List String}, RpL K M H vs ds → tysD ds = some ns → Paired ClsV vs (ns.map Value.type) ∧ vs = ns.map V.ty
  | [], _, _, .nil, e => by cases e; exact ⟨.nil, rfl⟩
  | d :: ds, _, ns, .cons q qs, e => by
    cases d with
    | ty n =>
      cases q
      unfold tysD at e
      cases h : tysD ds with
      | none => rw [h] at e; cases e
      | some ms =>
        rw [h] at e
        cases e
        obtain ⟨h1, h2⟩ := tysD.run qs h
        exact ⟨.cons (.ty n) h1, by rw [h2]; rfl⟩
    | _ => cases e
theorem anyTy.run {K : PySem.W.Frag} {t : String} : ∀ {ns : List String} {b : Bool}, anyTy t ns = some b → PySem.W.kitAny K (.type t) (ns.map Value.type) = some b
  | [], b, e => e
  | n :: ns, b, e => by
    unfold anyTy at e
    split at e
    · rename_i h
      cases e
      exact kitAny_cons (b := true) (r := true) (kit_ty h) (fun z => by cases z) (fun _ => rfl)
    · rename_i h
      exact kitAny_cons (kit_ty h) (fun _ => anyTy.run e) (fun z => by cases z)
    · cases e
theorem c_isi : ∃ r, CallR X (.builtin "isinstance") r ∧ OpN X.K r isiD := by
  refine ⟨_, CallR.or call_isi (CallR.or call_isiT call_isiK), fun xs d e M H vs Q m qs k => ?_⟩
  unfold isiD at e
  split at e
  · split at e
    · rename_i t ht
      obtain ⟨v, u, rfl, q1, q2⟩ := qs.two
      cases q2
      cases hb : kitB t _ with
      | none => rw [hb] at e; cases e
      | some b =>
        rw [hb] at e
        cases e
        exact .inl ⟨_, _, _, _, b, rfl, .ty _, q1.tyx ht, kit_ty hb, k _ H same_rfl (.bl _)⟩
    · cases e
  · split at e
    · rename_i t ns ht hns
      obtain ⟨v, u, rfl, q1, q2⟩ := qs.two
      cases hb : anyTy t ns with
      | none => rw [hb] at e; cases e
      | some b =>
        rw [hb] at e
        cases e
        cases q2 with
        | tup h l =>
          obtain ⟨h1, h2⟩ := tysD.run l hns
          exact .inr (.inl ⟨_, _, _, _, _, b, rfl, h, h1, q1.tyx ht, anyTy.run hb, k _ H same_rfl (.bl _)⟩)
        | tupK h l =>
          obtain ⟨h1, h2⟩ := tysD.run l hns
          obtain ⟨⟨c, dd, data, sl⟩, its, n, h3, h4, h5, h6, h7⟩ := h
          have h4 : c = .type "tuple" := h4
          have h5 : data = .seq its n := h5
          subst h4 h5
          have e1 : its = (ns.map Value.type).toArray := by
            have := ClsV.all h1 h7
            rw [← this]
          rw [e1] at h3
          exact .inr (.inr ⟨_, _, dd, _, n, sl, _, b, rfl, h3, q1.tyx ht, anyTy.run hb, k _ H same_rfl (.bl _)⟩)
    · cases e
  · cases e
/-! ### ints in lists -/
def intsD : List D → Option (List Int)
  | [] => some []
  | .int i :: ds => (intsD ds).map (i :: ·)
  | _ => none
theorem intsD.run {K : PySem.W.Frag} {M : MS} {H : Hp} : ∀ {ds : List D} {vs : List V} {ns : List Int}, RpL K M H vs ds → intsD ds = some ns → vs = ns.map V.int
  | [], _, _, .nil, e => by cases e; rfl
  | d :: ds, _, ns, .cons q qs, e => by
    cases d with
    | int n =>
      cases q
      unfold intsD at e
      cases h : intsD ds with
      | none => rw [h] at e; cases e
      | some ms =>
        rw [h] at e
        cases e
        rw [intsD.run qs h]
        rfl
    | _ => cases e
theorem intsD.back {K : PySem.W.Frag} {M : MS} {H : Hp} : ∀ ns : List Int, RpL K M H (ns.map V.int) (ns.map D.int)
  | [] => .nil
  | n :: ns => .cons (.int n) (intsD.back ns)
theorem intsD.map : ∀ ns : List Int, intsD (ns.map D.int) = some ns
  | [] => rfl
  | n :: ns => by
    show (intsD (ns.map D.int)).map (n :: ·) = some (n :: ns)
    rw [intsD.map ns]
    rfl
def sortI (ns : List Int) : List Int := ns.mergeSort (fun a b => decide (a ≤ b))
theorem sortI_perm (ns : List Int) : (sortI ns).Perm ns := List.mergeSort_perm ns _
theorem sortI_sorted (ns : List Int) : (sortI ns).Pairwise (· ≤ ·) := by
  have h := List.pairwise_mergeSort (le := fun a b : Int => decide (a ≤ b)) (fun a b c h1 h2 => decide_eq_true (Int.le_trans (of_decide_eq_true h1) (of_decide_eq_true h2))) (fun a b => by
    rcases Int.le_total a b with h | h
    · rw [decide_eq_true h]; rfl
    · rw [decide_eq_true h, Bool.or_true]) ns
  exact h.imp fun h => of_decide_eq_true h
theorem sortI_uniq {ns ms : List Int} (h : ms.Perm ns) (hs : ms.Pairwise (· ≤ ·)) : ms = sortI ns :=
  List.Perm.eq_of_pairwise (fun a b _ _ h1 h2 => Int.le_antisymm h1 h2) hs (sortI_sorted ns) (h.trans (sortI_perm ns).symm)
def sortedN : List D → Option (List D)
  | [.lst ds] => (intsD ds).map fun ns => (sortI ns).map .int
  | _ => none
theorem c_sorted : ∃ r, CallR X (.builtin "sorted") r ∧ OpW X.K r sortedN := by
  refine ⟨_, cr_sortedI, fun xs ds e M H vs Q m qs k => ?_⟩
  unfold sortedN at e
  split at e
  · rename_i es
    obtain ⟨v, rfl, q⟩ := qs.one
    obtain ⟨a, ws, rfl, hq, l⟩ := q.seq
    cases h : intsD es with
    | none => rw [h] at e; cases e
    | some ns =>
      rw [h] at e
      cases e
      rw [intsD.run l h] at hq
      refine ⟨a, ns, rfl, hq, fun ns' p h1 h2 hp => ?_⟩
      rw [sortI_uniq h1 h2]
      exact k p _ H same_rfl hp (intsD.back _)
  · cases e
def sumD : List D → Option D
  | [.lst ds] => (intsD ds).map fun ns => .int ns.sum
  | _ => none
theorem c_sum (hc : X.calm = true) : ∃ r, CallR X (.builtin "sum") r ∧ OpN X.K r sumD := by
  refine ⟨_, cr_sum hc, fun xs d e M H vs Q m qs k => ?_⟩
  unfold sumD at e
  split at e
  · rename_i es
    obtain ⟨v, rfl, q⟩ := qs.one
    obtain ⟨a, ws, rfl, hq, l⟩ := q.seq
    cases h : intsD es with
    | none => rw [h] at e; cases e
    | some ns =>
      rw [h] at e
      cases e
      rw [intsD.run l h] at hq
      exact ⟨a, ns, rfl, hq, k _ H same_rfl (.int _)⟩
  · cases e
def maxI : Int → List Int → Int
  | a, [] => a
  | a, b :: r => maxI (if a < b then b else a) r
def minI : Int → List Int → Int
  | a, [] => a
  | a, b :: r => minI (if b < a then b else a) r
theorem maxI_spec : ∀ (r : List Int) (a : Int), (maxI a r = a ∨ maxI a r ∈ r) ∧ a ≤ maxI a r ∧ ∀ y ∈ r, y ≤ maxI a r
  | [], a => ⟨.inl rfl, Int.le_refl _, fun y hy => by cases hy⟩
  | b :: r, a => by
    obtain ⟨h1, h2, h3⟩ := maxI_spec r (if a < b then b else a)
    unfold maxI
    refine ⟨?_, ?_, fun y hy => ?_⟩
    · rcases h1 with h1 | h1
      · rw [h1]
        split
        · exact .inr List.mem_cons_self
        · exact .inl rfl
      · exact .inr (List.mem_cons_of_mem _ h1)
    · refine Int.le_trans ?_ h2
      split <;> omega
    · rcases List.mem_cons.mp hy with rfl | hy
      · refine Int.le_trans ?_ h2
        split <;> omega
      · exact h3 y hy
theorem minI_spec : ∀ (r : List Int) (a : Int), (minI a r = a ∨ minI a r ∈ r) ∧ minI a r ≤ a ∧ ∀ y ∈ r, minI a r ≤ y
  | [], a => ⟨.inl rfl, Int.le_refl _, fun y hy => by cases hy⟩
  | b :: r, a => by
    obtain ⟨h1, h2, h3⟩ := minI_spec r (if b < a then b else a)
    unfold minI
    refine ⟨?_, ?_, fun y hy => ?_⟩
    · rcases h1 with h1 | h1
      · rw [h1]
        split
        · exact .inr List.mem_cons_self
        · exact .inl rfl
      · exact .inr (List.mem_cons_of_mem _ h1)
    · refine Int.le_trans h2 ?_
      split <;> omega
    · rcases List.mem_cons.mp hy with rfl | hy
      · refine Int.le_trans h2 ?_
        split <;> omega
      · exact h3 y hy
def maxD : List D → Option D
  | [.lst ds] => match intsD ds with
    | some (a :: r) => some (.int (maxI a r))
    | _ => none
  | [.int i, .int j] => some (.int (if j > i then j else i))
  | _ => none
def minD : List D → Option D
  | [.lst ds] => match intsD ds with
    | some (a :: r) => some (.int (minI a r))
    | _ => none
  | [.int i, .int j] => some (.int (if j < i then j else i))
  | _ => none
theorem c_max (hc : X.calm = true) : ∃ r, CallR X (.builtin "max") r ∧ OpN X.K r maxD := by
  refine ⟨_, CallR.or (cr_max hc) (call_max2 hc), fun xs d e M H vs Q m qs k => ?_⟩
  unfold maxD at e
  split at e
  · obtain ⟨v, rfl, q⟩ := qs.one
    obtain ⟨a, ws, rfl, hq, l⟩ := q.seq
    split at e
    · rename_i b r h
      cases e
      rw [intsD.run l h] at hq
      obtain ⟨h1, h2, h3⟩ := maxI_spec r b
      refine .inl ⟨a, b :: r, rfl, hq, Nat.succ_pos _, fun n hn hb => ?_⟩
      have e1 : n = maxI b r := by
        refine Int.le_antisymm ?_ (hb _ ?_)
        · rcases List.mem_cons.mp hn with rfl | hn
          · exact h2
          · exact h3 n hn
        · rcases h1 with h1 | h1
          · rw [h1]; exact List.mem_cons_self
          · exact List.mem_cons_of_mem _ h1
      rw [e1]
      exact k _ H same_rfl (.int _)
    · cases e
  · cases e
    obtain ⟨v, u, rfl, q1, q2⟩ := qs.two
    cases q1
    cases q2
    exact .inr ⟨_, _, rfl, k _ H same_rfl (.int _)⟩
  · cases e
theorem c_min (hc : X.calm = true) : ∃ r, CallR X (.builtin "min") r ∧ OpN X.K r minD := by
  refine ⟨_, CallR.or (cr_min hc) (call_min2 hc), fun xs d e M H vs Q m qs k => ?_⟩
  unfold minD at e
  split at e
  · obtain ⟨v, rfl, q⟩ := qs.one
    obtain ⟨a, ws, rfl, hq, l⟩ := q.seq
    split at e
    · rename_i b r h
      cases e
      rw [intsD.run l h] at hq
      obtain ⟨h1, h2, h3⟩ := minI_spec r b
      refine .inl ⟨a, b :: r, rfl, hq, Nat.succ_pos _, fun n hn hb => ?_⟩
      have e1 : n = minI b r := by
        refine Int.le_antisymm (hb _ ?_) ?_
        · rcases h1 with h1 | h1
          · rw [h1]; exact List.mem_cons_self
          · exact List.mem_cons_of_mem _ h1
        · rcases List.mem_cons.mp hn with rfl | hn
          · exact h2
          · exact h3 n hn
      rw [e1]
      exact k _ H same_rfl (.int _)
    · cases e
  · cases e
    obtain ⟨v, u, rfl, q1, q2⟩ := qs.two
    cases q1
    cases q2
    exact .inr ⟨_, _, rfl, k _ H same_rfl (.int _)⟩
  · cases e
/-- repr -/
def reprD : List D → Option D
  | [x] => match toPy x with
    | some d => if d.showable = true ∧ d.hasDict = false ∧ d.depth < 60 ∧ d.shown.length ≤ sizeLine then some (.str d.shown) else none
    | none => none
  | _ => none
theorem c_repr (hg : X.A.guards = some []) (hu : X.A.units + 64 < cLine) : ∃ r, CallR X (.builtin "repr") r ∧ OpN X.K r reprD := by
  refine ⟨fun vs H Q => ∃ v d, vs = [v] ∧ Dp X.K H v d ∧ d.showable = true ∧ d.hasDict = false ∧ d.depth < 60 ∧ d.shown.length ≤ sizeLine ∧ Q (.str d.shown) H, ?_, fun xs d e M H vs Q m qs k => ?_⟩
  · intro pins s σ H vs us Q I r h
    obtain ⟨v, d, rfl, hd, h1, h2, h3, h4, q⟩ := h
    obtain ⟨u, rfl, ru⟩ := vals1 r
    cases hd with
    | non => cases ru; exact PySem.P.repr_of_none ⟨.str _, H, I.tok _, ⟨_, rfl⟩, by simpa only [PyData.shown] using q⟩
    | bl b => cases ru; exact PySem.P.repr_of_bool ⟨.str _, H, I.tok _, ⟨_, rfl⟩, by simpa only [PyData.shown] using q⟩
    | int i =>
      obtain ⟨t, rfl⟩ := ru
      exact PySem.P.repr_of_int (by simpa [PyData.showable] using h1) ⟨.str _, H, I.tok _, ⟨_, rfl⟩, by simpa only [PyData.shown] using q⟩
    | str x =>
      obtain ⟨t, rfl⟩ := ru
      exact PySem.P.repr_of_str ⟨.str _, H, I.tok _, ⟨_, rfl⟩, by simpa only [PyData.shown] using q⟩ (by simpa only [PyData.shown] using h4)
    | @lst a xs ds hs ha =>
      cases ru
      obtain ⟨as, hr⟩ := Dp.reads I (.list ds) (.ref a) (.ref a) (.lst hs ha) rfl
      exact repr_of_reads' hr h1 (PySem.PyData.noDict_hsm h2) hg (by omega) (fun _ _ e => e) (fun h' u tk hk => ⟨.str _, H, I.kept hk, ⟨u, rfl⟩, q⟩) h4
    | @tup a xs ds hs ha =>
      cases ru
      obtain ⟨as, hr⟩ := Dp.reads I (.tuple ds) (.ref a) (.ref a) (.tup hs ha) rfl
      exact repr_of_reads' hr h1 (PySem.PyData.noDict_hsm h2) hg (by omega) (fun _ _ e => e) (fun h' u tk hk => ⟨.str _, H, I.kept hk, ⟨u, rfl⟩, q⟩) h4
  · unfold reprD at e
    split at e
    · split at e
      · split at e
        · rename_i d hd hc
          cases e
          obtain ⟨v, rfl, q⟩ := qs.one
          exact ⟨v, d, rfl, q.dp hd, hc.1, hc.2.1, hc.2.2.1, hc.2.2.2, k _ H same_rfl (.str _)⟩
        · cases e
      · cases e
    · cases e
/-- all, any of bools -/
def blsD : List D → Option (List Bool)
  | [] => some []
  | .bl i :: ds => (blsD ds).map (i :: ·)
  | _ => none
theorem blsD.run {K : PySem.W.Frag} {M : MS} {H : Hp} : ∀ {ds : List D} {vs : List V} {ns : List Bool}, RpL K M H vs ds → blsD ds = some ns → vs = ns.map V.bl
  | [], _, _, .nil, e => by cases e; rfl
  | d :: ds, _, ns, .cons q qs, e => by
    cases d with
    | bl n =>
      cases q
      unfold blsD at e
      cases h : blsD ds with
      | none => rw [h] at e; cases e
      | some ms =>
        rw [h] at e
        cases e
        rw [blsD.run qs h]
        rfl
    | _ => cases e
def allD : List D → Option D
  | [.lst ds] => (blsD ds).map fun bs => .bl (bs.all id)
  | _ => none
theorem c_all (hc : X.calm = true) : ∃ r, CallR X (.builtin "all") r ∧ OpN X.K r allD := by
  refine ⟨_, cr_all hc, fun xs d e M H vs Q m qs k => ?_⟩
  unfold allD at e
  split at e
  · rename_i es
    obtain ⟨v, rfl, q⟩ := qs.one
    obtain ⟨a, ws, rfl, hq, l⟩ := q.seq
    cases h : blsD es with
    | none => rw [h] at e; cases e
    | some ns =>
      rw [h] at e
      cases e
      rw [blsD.run l h] at hq
      exact ⟨a, ns, rfl, hq, k _ H same_rfl (.bl _)⟩
  · cases e
/-! ### ranges -/
def rngD (a b : Int) : List D := (List.range (b - a).toNat).map fun i => D.int (a + (i : Nat))
theorem rngD.run {K : PySem.W.Frag} {M : MS} {H : Hp} (a b : Int) : RpL K M H (rgV a b) (rngD a b) := by
  unfold rgV rngD
  generalize List.range (b - a).toNat = l
  induction l with
  | nil => exact .nil
  | cons i l ih => exact .cons (.int _) ih
def sm62 (a : Int) : Bool := decide (-(2 ^ 62) ≤ a ∧ a < 2 ^ 62)
def rng1F (f : F D) : F (List D) := fun s => (f s).bind fun x s1 => match x with
  | .int n => if sm62 n = true then .ok (rngD 0 n) s1 else .no
  | _ => .no
def rng2F (f g : F D) : F (List D) := fun s => (f s).bind fun x s1 => (g s1).bind fun y s2 => match x, y with
  | .int a, .int b => if sm62 a = true ∧ sm62 b = true then .ok (rngD a b) s2 else .no
  | _, _ => .no
theorem wk_rng {K : PySem.W.Frag} {M : MS} {H : Hp} {a b : Int} : Wk K M H (Itr a (b - a).toNat) (rngD a b) where
  go := fun i d M' H' m ev e => by
    unfold rngD at e
    rw [List.getElem?_map] at e
    cases h : (List.range (b - a).toNat)[i]? with
    | none => rw [h] at e; cases e
    | some j =>
      rw [h] at e
      cases e
      obtain ⟨hi, hj⟩ := List.getElem?_eq_some_iff.mp h
      rw [List.length_range] at hi
      rw [List.getElem_range] at hj
      subst hj
      refine ⟨hi, fun x H'' y => ?_⟩
      obtain ⟨rfl, rfl⟩ := y
      exact ⟨same_rfl, .int _⟩
  stop := fun M' H' m ev => by
    show (b - a).toNat ≤ (rngD a b).length
    unfold rngD
    rw [List.length_map, List.length_range]
    exact Nat.le_refl _
variable {B : Bs} {W : WX} {e e2 tg : Expr} {f g : F D} {p pos : Pos}
theorem si_rng1 (hg : Gl X "range") (hm : X.mg "range" = none) (he : SE X B W e f) (hs : starEach [e] X.env = [(false, eval e X.env)] := by rfl) : SI X B W tg (.Call (.Name "range" p) [e] [] pos) (rng1F f) := by
  refine PI.imp (pi_range1 hg hm (pa_cons he pa_nil hs) hs) fun σ H Q ⟨M, s, r, p⟩ => ⟨M, s, r, PostI.bind p fun x s1 M1 H1 v r1 q1 ev1 p1 => ?_⟩
  split at p1
  · split at p1
    · rename_i n hn
      cases q1
      have hn := of_decide_eq_true hn
      refine ⟨n, rfl, hn.1, hn.2, ?_⟩
      have := p1.out r1 (J := Itr 0 (n - 0).toNat) wk_rng
      rw [Int.sub_zero] at this
      exact this
    · exact p1.elim
  · exact p1.elim
theorem si_rng2 (hg : Gl X "range") (hm : X.mg "range" = none) (he : SE X B W e f) (he2 : SE X B W e2 g) (hs : starEach [e, e2] X.env = [(false, eval e X.env), (false, eval e2 X.env)] := by rfl) (hs2 : starEach [e2] X.env = [(false, eval e2 X.env)] := by rfl) : SI X B W tg (.Call (.Name "range" p) [e, e2] [] pos) (rng2F f g) := by
  refine PI.imp (pi_range2 hg hm (pa_cons he (pa_cons he2 pa_nil hs2) (by rw [hs, hs2])) hs hs2) fun σ H Q ⟨M, s, r, p⟩ => ⟨M, s, r, PostI.bind p fun x s1 M1 H1 v r1 q1 ev1 p1 => ⟨M1, s1, r1, PostI.bind p1 fun y s2 M2 H2 u r2 q2 ev2 p2 => ?_⟩⟩
  split at p2
  · split at p2
    · rename_i a b hn
      cases q1
      cases q2
      have h1 := of_decide_eq_true hn.1
      have h2 := of_decide_eq_true hn.2
      exact ⟨a, b, rfl, ⟨h1.1, h1.2, h2.1, h2.2⟩, p2.out r2 wk_rng⟩
    · exact p2.elim
  · exact p2.elim
/-- list(range(..)), tuple(range(..)) -/
def rngOk (a b : Int) : Bool := decide (-(2 ^ 62) ≤ a ∧ a < 2 ^ 62 ∧ -(2 ^ 62) ≤ b ∧ b < 2 ^ 62 ∧ (b - a).toNat ≤ 2 ^ 24)
theorem rngOk.run {a b : Int} (h : rngOk a b = true) : RgOk a b := by
  unfold rngOk at h
  have h2 := of_decide_eq_true h
  exact h2
def lrng1N (f : F D) : F (List D) := fun s => (f s).bind fun x s1 => match x with
  | .int n => if rngOk 0 n = true then .ok (rngD 0 n) s1 else .no
  | _ => .no
def lrng2N (f g : F D) : F (List D) := fun s => (f s).bind fun x s1 => (g s1).bind fun y s2 => match x, y with
  | .int a, .int b => if rngOk a b = true then .ok (rngD a b) s2 else .no
  | _, _ => .no
theorem sn_list1 {p' pos' : Pos} (hc : X.calm = true) (hgl : Gl X "list") (hml : X.mg "list" = none) (hg : Gl X "range") (hm : X.mg "range" = none) (he : SE X B W e f) (na : starEach [e] X.env = (false, eval e X.env) :: starEach [] X.env := by rfl)
    (nb : starEach [.Call (.Name "range" p) [e] [] pos] X.env = (false, eval (.Call (.Name "range" p) [e] [] pos) X.env) :: starEach [] X.env := by rfl) : SN X B W (.Call (.Name "list" p') [.Call (.Name "range" p) [e] [] pos] [] pos') (lrng1N f) := by
  refine PE.imp (pe_listRg hc hgl hml (prg_1 hg hm he na) nb) fun σ H Q ⟨M, s, r, p⟩ => ⟨M, s, r, PostN.bind p fun x s1 M1 H1 v r1 q1 ev1 p1 => ?_⟩
  split at p1
  · split at p1
    · rename_i n hn
      cases q1
      exact ⟨n, rfl, rngOk.run hn, fun q hq => p1.laid r1 hq (rngD.run _ _)⟩
    · exact p1.elim
  · exact p1.elim
theorem sn_list2 {p' pos' : Pos} (hc : X.calm = true) (hgl : Gl X "list") (hml : X.mg "list" = none) (hg : Gl X "range") (hm : X.mg "range" = none) (he : SE X B W e f) (he2 : SE X B W e2 g) (na : starEach [e, e2] X.env = (false, eval e X.env) :: starEach [e2] X.env := by rfl)
    (nc : starEach [e2] X.env = (false, eval e2 X.env) :: starEach [] X.env := by rfl) (hpl : (backTo pos (starEach [e2] X.env)).any (·.1) = false := by rfl)
    (nb : starEach [.Call (.Name "range" p) [e, e2] [] pos] X.env = (false, eval (.Call (.Name "range" p) [e, e2] [] pos) X.env) :: starEach [] X.env := by rfl) : SN X B W (.Call (.Name "list" p') [.Call (.Name "range" p) [e, e2] [] pos] [] pos') (lrng2N f g) := by
  refine PE.imp (pe_listRg hc hgl hml (prg_2 hg hm he he2 na nc hpl) nb) fun σ H Q ⟨M, s, r, p⟩ => ⟨M, s, r, PostN.bind p fun x s1 M1 H1 v r1 q1 ev1 p1 => ⟨M1, s1, r1, PostN.bind p1 fun y s2 M2 H2 u r2 q2 ev2 p2 => ?_⟩⟩
  split at p2
  · split at p2
    · rename_i a b hn
      cases q1
      cases q2
      exact ⟨a, b, rfl, rfl, rngOk.run hn, fun q hq => p2.laid r2 hq (rngD.run _ _)⟩
    · exact p2.elim
  · exact p2.elim
/-- a new list as a value -/
def lstF' (k : F (List D)) : F D := fun s => (k s).bind fun ds s1 => .ok (.lst ds) s1
theorem SR.letgo {M : MS} {σ : L2.St} {H : Hp} {s : List Sl} {a : Addr} {ds : List D} (r : SR B M σ H s) (o : Owned B σ s M H a ds) : SR B (Wout M a) σ H s ∧ Rp B.K (Wout M a) H (.ref a) (.lst ds) := by
  obtain ⟨xs, h1, h2, h3, h4, h5, h6⟩ := o
  have sb : Ev M H (Wout M a) H := .sub fun b z => z.1
  have nmc : ¬ B.Mc a := fun z => r.bm.there h3 z
  refine ⟨?_, .lst h1 (fun z => z.2 rfl) (h4.move r.mo sb)⟩
  exact {
    va := fun i d e => let ⟨v, e1, q⟩ := r.va i d e; ⟨v, e1, q.move r.mo sb⟩
    ow := fun i d e => let ⟨b, zs, e1, q, m, n, l⟩ := r.ow i d e; ⟨b, zs, e1, q, ⟨m, fun z => h6 i d e (z ▸ e1)⟩, n, l.move r.mo sb⟩
    io := fun i d e => let ⟨z, b, zs, p, e1, q, m, l⟩ := r.io i d e; ⟨z, b, zs, p, e1, q, ⟨m, fun y => nmc (y ▸ (r.pa b p).1)⟩, l.move r.mo sb⟩
    pa := r.pa
    ne := r.ne
    mo := fun b z => r.mo b z.1
    up := fun b z => ⟨r.up b z, fun y => nmc (y ▸ z)⟩
    dn := fun b z => r.dn b z.1
    st := r.st
    bm := r.bm
    lk := fun b o e => by
      obtain ⟨g1, g2, g3⟩ := r.lk b o e
      exact ⟨⟨g1, fun z => by rw [z, h5] at e; cases e⟩, g2, g3⟩
    len := r.len }
theorem se_new {k : F (List D)} (h : SN X B W e k) : SE X B W e (lstF' k) := PE.imp h fun σ H Q ⟨M, s, r, p⟩ => by
  refine ⟨M, s, r, ?_⟩
  unfold lstF' at p
  cases hk : k s with
  | no => rw [hk] at p; exact p.elim
  | er x s1 => rw [hk] at p; exact p
  | ok ds s1 =>
    rw [hk, R.bind_ok] at p
    intro a H' M' r' o ev
    obtain ⟨r2, q⟩ := r'.letgo o
    exact p (.ref a) H' _ r2 q (ev.trans (.sub fun b z => z.1))
end
end Fx

set_option Elab.async false
set_option linter.all false
set_option maxRecDepth 100000
namespace Fx
open PySem L2 PyProof.Rows
/-! ### min, max of a list of tuples of ints: the loop with comparisons that may look at the state of the walk -/
def CmpAt (prog : Program) (w : World) (A : Around) (op : CmpOp) (P : Nat → Value → Prop) (St : Nat → Heap → Prop) (bt : Nat → Nat → Bool) : Prop :=
  ∀ k i j vi vj (s : Shared) (Q : Value → Shared → Prop) (E : Value → Shared → Prop), P i vi → P j vj → St k s.heap → Q (.bool (bt i j)) s → wpAny (model prog w) A (richCompare op vi vj) Q E s
section
variable {prog : Program} {w : World} {A : Around} {R : Result → Shared → Prop} {I : Addr} {fp wr : List Addr} {n : Nat} {P : Nat → Value → Prop} {St : Nat → Heap → Prop}
theorem min_loopA (W : Walks prog w A.in1 I fp wr n P St) (bt : Nat → Nat → Bool) (cmp : CmpAt prog w A.in1 .Lt P St bt) (S : Addr) (nf : S ∉ fp) :
    ∀ (k j : Nat) (s : Shared) (vb : Value) (c : Nat), n - (j + 1) = k → j + 1 ≤ n → St (j + 1) s.heap → P (argBest bt j) vb →
    s.heap.get? S = some { cls := .type "list", dict := none, data := .seq #[vb, vb] c, slots := #[] } →
    (∀ v g1 tk1, P (argBest bt (n - 1)) v → (∀ b o, b ∉ wr → b ≠ S → s.heap.get? b = some o → g1.get? b = some o) → R (.ok (.ret v)) { s with heap := g1, toks := tk1 }) →
    codeAny (model prog w) A (.builtin "min.loop" ⟨[.ref I, .none, .ref S], []⟩) R s := by
  have nw : S ∉ wr := fun h => nf (W.sub _ h)
  have en : (toString "min" ++ toString ".loop" : String) = "min.loop" := by decide
  intro k
  induction k with
  | zero =>
    intro j s vb c kp jn st0 pb gS fin
    have ej : j + 1 = n := by omega
    refine codeAny_builtin F.entry_min_loop ?_
    rw [Around.under_plainId F.plain_min_loop _]
    show wpAny _ A.in1 (seqItems? (.ref S) >>= _) _ _ s
    refine wpAny_bind (wpAny_seqItems gS rfl ?_)
    show wpAny _ A.in1 (tryCatch (pyNext (.ref I)) _ >>= _) _ _ s
    refine wpAny_bind (wpAny_tryCatch (W.done s _ _ (ej ▸ st0) fun g1 tk1 kp1 => ?_))
    have gS1 := kp1 S _ nw gS
    show wpAny _ A.in1 (updateSeq S (fun _ => #[]) >>= _) _ _ _
    refine wpAny_bind ?_
    refine wpAny_updateSeq gS1 rfl (wpAny_bind (wpAny_letGo (wpAny_pure ?_)))
    refine fin vb _ tk1 (by rw [← ej]; exact pb) fun b o nbw neS e => (Heap.get?_update_other _ _ (Ne.symm neS)).trans (kp1 b o nbw e)
  | succ k ih =>
    intro j s vb c kp jn st0 pb gS fin
    have jlt : j + 1 < n := by omega
    refine codeAny_builtin F.entry_min_loop ?_
    rw [Around.under_plainId F.plain_min_loop _]
    show wpAny _ A.in1 (seqItems? (.ref S) >>= _) _ _ s
    refine wpAny_bind (wpAny_seqItems gS rfl ?_)
    show wpAny _ A.in1 (tryCatch (pyNext (.ref I)) _ >>= _) _ _ s
    refine wpAny_bind (wpAny_tryCatch (W.item (j + 1) s _ _ jlt st0 fun v g1 tk1 p0 st1 kp1 => ?_))
    have gS1 := kp1 S _ nw gS
    show wpAny _ A.in1 (tryCatch (holding [v, v] (richCompare .Lt v vb >>= _)) _ >>= _) _ _ _
    refine wpAny_bind (wpAny_tryCatch (wpAny_holding (wpAny_bind (cmp _ (j + 1) (argBest bt j) v vb _ _ _ p0 pb st1 ?_))))
    refine wpAny_bind (wpAny_holding (wpAny_truthy_bool ?_))
    refine wpAny_bind (wpAny_letGo (wpAny_pure ?_))
    cases ebt : bt (j + 1) (argBest bt j) with
    | true =>
      simp only [if_true]
      refine wpAny_bind ?_
      refine wpAny_updateSeq gS1 rfl (wpAny_bind (wpAny_letGo ?_))
      rw [en]
      refine wpAny_pure ⟨plainId_quiet F.plain_min_loop _, ih (j + 1) _ v _ (by omega) jlt (W.frame _ _ _ st1 fun b ibf o e => ?_) (by simp only [argBest, ebt, if_true]; exact p0) (Heap.get?_update_self _ gS1 rfl)
        fun v1 g2 tk2 p1 kp2 => ?_⟩
      · exact (Heap.get?_update_other _ _ (fun h : S = b => nf (by rw [h]; exact ibf))).trans e
      · exact fin v1 g2 tk2 p1 fun b o nbw neS e => kp2 b o nbw neS ((Heap.get?_update_other _ _ (Ne.symm neS)).trans (kp1 b o nbw e))
    | false =>
      simp only [Bool.false_eq_true, if_false]
      refine wpAny_bind (wpAny_letGo ?_)
      rw [en]
      refine wpAny_pure ⟨plainId_quiet F.plain_min_loop _, ih (j + 1) _ vb c (by omega) jlt st1 (by simp only [argBest, ebt, Bool.false_eq_true, if_false]; exact pb) gS1 fun v1 g2 tk2 p1 kp2 => ?_⟩
      exact fin v1 g2 tk2 p1 fun b o nbw neS e => kp2 b o nbw neS (kp1 b o nbw e)
theorem min_firstA (W : Walks prog w A.in1 I fp wr n P St) (bt : Nat → Nat → Bool) (cmp : CmpAt prog w A.in1 .Lt P St bt) (S : Addr) (nf : S ∉ fp) (pos0 : 0 < n) {s : Shared} {c : Nat} (st0 : St 0 s.heap)
    (gS : s.heap.get? S = some { cls := .type "list", dict := none, data := .seq #[] c, slots := #[] })
    (fin : ∀ v g1 tk1, P (argBest bt (n - 1)) v → (∀ b o, b ∉ wr → b ≠ S → s.heap.get? b = some o → g1.get? b = some o) → R (.ok (.ret v)) { s with heap := g1, toks := tk1 }) :
    codeAny (model prog w) A (.builtin "min.loop" ⟨[.ref I, .none, .ref S], []⟩) R s := by
  have nw : S ∉ wr := fun h => nf (W.sub _ h)
  have en : (toString "min" ++ toString ".loop" : String) = "min.loop" := by decide
  refine codeAny_builtin F.entry_min_loop ?_
  rw [Around.under_plainId F.plain_min_loop _]
  show wpAny _ A.in1 (seqItems? (.ref S) >>= _) _ _ s
  refine wpAny_bind (wpAny_seqItems gS rfl ?_)
  show wpAny _ A.in1 (tryCatch (pyNext (.ref I)) _ >>= _) _ _ s
  refine wpAny_bind (wpAny_tryCatch (W.item 0 s _ _ pos0 st0 fun v g1 tk1 p0 st1 kp1 => ?_))
  have gS1 := kp1 S _ nw gS
  show wpAny _ A.in1 (updateSeq S (fun _ => #[v, v]) >>= _) _ _ _
  refine wpAny_bind ?_
  refine wpAny_updateSeq gS1 rfl ?_
  rw [en]
  refine wpAny_pure ⟨plainId_quiet F.plain_min_loop _, min_loopA W bt cmp S nf _ 0 _ v _ rfl pos0 (W.frame _ _ _ st1 fun b ibf o e => ?_) p0 (Heap.get?_update_self _ gS1 rfl) fun v1 g2 tk2 p1 kp2 => ?_⟩
  · exact (Heap.get?_update_other _ _ (fun h : S = b => nf (by rw [h]; exact ibf))).trans e
  · exact fin v1 g2 tk2 p1 fun b o nbw neS e => kp2 b o nbw neS ((Heap.get?_update_other _ _ (Ne.symm neS)).trans (kp1 b o nbw e))
end
section
variable {prog : Program} {w : World} {A : Around} {E : Value → Shared → Prop} {s : Shared}
theorem min_walkA {x : Value} {Q : Value → Shared → Prop}
    (h : wpAny (model prog w) A.in1 (pyIter x) (fun it s2 => ∃ I fp wr n P St bt, it = .ref I ∧ Walks prog w A.in1 I fp wr n P St ∧ St 0 s2.heap ∧ (∀ b ∈ fp, b < s2.heap.objs.size) ∧ 0 < n ∧ CmpAt prog w A.in1 .Lt P St bt ∧
      ∀ v g1 tk1, P (argBest bt (n - 1)) v → (∀ b o, b ∉ wr → s2.heap.get? b = some o → g1.get? b = some o) → Q v { s2 with heap := g1, toks := tk1 }) E s) :
    wpAny (model prog w) A (call (.builtin "min") [x]) Q E s := by
  have en : (toString "min" ++ toString ".loop" : String) = "min.loop" := by decide
  refine call_function_tree F.kind_min F.plain_min F.entry_min (F.args_min1 _) ?_
  show wpAny _ A.in1 (Builtin.Builtins.bindParams "min" ["key", "default"] 0 ⟨[], []⟩ >>= _) _ _ s
  refine wpAny_bind (wpAny_of_eq (show Builtin.Builtins.bindParams "min" ["key", "default"] 0 ⟨[], []⟩ = pure [none, none] from rfl) ?_)
  refine wpAny_bind (wpAny_pure ?_)
  refine wpAny_bind (wpAny_mono h (fun it s2 h2 => ?_) fun _ _ e => e)
  obtain ⟨I, fp, wr, n, P, St, bt, rfl, W, st0, fpl, pos0, cmp, q0⟩ := h2
  refine wpAny_bind (wpAny_newObj_type ?_)
  have nf : s2.heap.objs.size ∉ fp := fun hm => Nat.lt_irrefl _ (fpl _ hm)
  rw [en]
  refine wpAny_pure ⟨plainId_quiet F.plain_min_loop _, min_firstA W bt cmp s2.heap.objs.size nf pos0 (W.frame _ _ _ st0 fun b _ o e => Heap.get?_push_of_some _ e) (Heap.get?_push_size _ rfl) fun v g1 tk1 p0 kp => ?_⟩
  exact q0 v g1 tk1 p0 fun b o nbw e => kp b o nbw (Nat.ne_of_lt (Heap.lt_size e)) (Heap.get?_push_of_some _ e)
def lexB (nss : List (List Int)) (i j : Nat) : Bool := HT.lexLt (nss.getD i []) (nss.getD j [])
def refsOf (vs : List Value) : List Addr := vs.filterMap fun v => match v with
  | .ref t => some t
  | _ => none
theorem mem_refsOf {vs : List Value} {t : Addr} (h : Value.ref t ∈ vs) : t ∈ refsOf vs := List.mem_filterMap.mpr ⟨_, h, rfl⟩
theorem refsOf_mem {vs : List Value} {t : Addr} (h : t ∈ refsOf vs) : Value.ref t ∈ vs := by
  obtain ⟨v, hv, e⟩ := List.mem_filterMap.mp h
  split at e
  · cases e; exact hv
  · cases e
/-- the tuples of a list, as they lie -/
def TsAt (h : Heap) (vs : List Value) (nss : List (List Int)) : Prop := ∀ i v, vs[i]? = some v → TS.TupInts h v (nss.getD i [])
theorem tupInts_kept {h h' : Heap} {v : Value} {ns : List Int} (x : TS.TupInts h v ns) (k : ∀ t, v = .ref t → ∀ o, h.get? t = some o → h'.get? t = some o) : TS.TupInts h' v ns := by
  obtain ⟨t, its, e, ⟨o, ho, r⟩, hi⟩ := x
  exact ⟨t, its, e, ⟨o, k t e o ho, r⟩, hi⟩
theorem tsAt_kept {h h' : Heap} {vs : List Value} {nss : List (List Int)} (x : TsAt h vs nss) (k : ∀ t ∈ refsOf vs, ∀ o, h.get? t = some o → h'.get? t = some o) : TsAt h' vs nss :=
  fun i v e => tupInts_kept (x i v e) fun t et => k t (mem_refsOf (et ▸ List.mem_of_getElem? e))
theorem walks_tups (hh : A.handled = none) (I ax : Addr) (hne : ax ≠ I) (items : Array Value) (nss : List (List Int)) (hI : I ∉ refsOf items.toList) :
    Walks prog w A I (I :: ax :: refsOf items.toList) [I] items.size (fun i v => items[i]? = some v) (fun i h => (h.IsListIter I ax i ∧ h.IsList ax items) ∧ TsAt h items.toList nss) where
  sub := fun b hb => by simp at hb; simp [hb]
  frame := fun _ _ _ st hk => ⟨(Walks.list (prog := prog) (w := w) (A := A) hh I ax hne items).frame _ _ _ st.1 fun b hb o e => hk b (by
    rcases List.mem_cons.mp hb with rfl | hb
    · exact List.mem_cons_self
    · rcases List.mem_cons.mp hb with rfl | hb
      · exact List.mem_cons_of_mem _ List.mem_cons_self
      · cases hb) o e, tsAt_kept st.2 fun t ht o e => hk t (List.mem_cons_of_mem _ (List.mem_cons_of_mem _ ht)) o e⟩
  item := fun i s Q E hi st hQ => (Walks.list (prog := prog) (w := w) (A := A) hh I ax hne items).item i s Q E hi st.1 fun v h' tk hp hs' hk => hQ v h' tk hp ⟨hs', tsAt_kept st.2 fun t ht o e => hk t o (fun z => by
    rcases List.mem_cons.mp z with rfl | z
    · exact hI ht
    · cases z) e⟩ hk
  done := fun s Q E st hQ => (Walks.list (prog := prog) (w := w) (A := A) hh I ax hne items).done s Q E st.1 hQ
  self := fun i s Q E st hQ => (Walks.list (prog := prog) (w := w) (A := A) hh I ax hne items).self i s Q E st.1 hQ
theorem min_tups {ax : Addr} {items : Array Value} {nss : List (List Int)} {Q : Value → Shared → Prop} (hh : A.handled = none) (hu : A.units + 64 < cLine) (hl : s.heap.IsList ax items) (ht : TsAt s.heap items.toList nss) (hne : 0 < items.size)
    (h : ∀ v h' tk, items[argBest (lexB nss) (items.size - 1)]? = some v → (∀ b o, s.heap.get? b = some o → h'.get? b = some o) → Q v { s with heap := h', toks := tk }) :
    wpAny (model prog w) A (call (.builtin "min") [.ref ax]) Q E s := by
  have hlt : ax < s.heap.objs.size := by obtain ⟨_, e, _⟩ := hl; exact Heap.lt_size e
  have hr : ∀ t ∈ refsOf items.toList, t < s.heap.objs.size := fun t m => by
    obtain ⟨i, hi, e⟩ := List.getElem_of_mem (refsOf_mem m)
    obtain ⟨t', its, e', ⟨o, ho, _⟩, _⟩ := ht i _ (List.getElem?_eq_some_iff.mpr ⟨hi, e⟩)
    cases e'
    exact Heap.lt_size ho
  refine min_walkA (wpAny_pyIter_list hl ?_)
  refine ⟨_, _, _, _, _, _, lexB nss, rfl, walks_tups (A := A.in1) hh s.heap.objs.size ax (Nat.ne_of_lt hlt) items nss (fun m => Nat.lt_irrefl _ (hr _ m)),
    ⟨⟨⟨_, Heap.get?_push_size _ rfl, rfl, rfl⟩, hl.push _⟩, tsAt_kept ht fun t _ o e => Heap.get?_push_of_some _ e⟩, fun b hb => ?_, hne, ?_, fun v h' tk hP hk => ?_⟩
  · show b < (s.heap.push _).objs.size
    rw [Heap.size_push]
    rcases List.mem_cons.mp hb with rfl | hb
    · exact Nat.lt_succ_self _
    · rcases List.mem_cons.mp hb with rfl | hb
      · exact Nat.lt_succ_of_lt hlt
      · exact Nat.lt_succ_of_lt (hr _ hb)
  · intro k i j vi vj s1 Q1 E1 hi hj st q
    obtain ⟨t1, i1, rfl, p1, n1⟩ := st.2 i vi (by rw [Array.getElem?_toList]; exact hi)
    obtain ⟨t2, i2, rfl, p2, n2⟩ := st.2 j vj (by rw [Array.getElem?_toList]; exact hj)
    exact HT.lt_tupInts p1 p2 n1 n2 (show A.units + 1 < cLine by omega) q
  · exact h v h' tk hP fun b o e => hk b o (fun hm => by
      rcases List.mem_cons.mp hm with e1 | hm
      · exact absurd (e1 ▸ Heap.lt_size e) (Nat.lt_irrefl _)
      · cases hm) (Heap.get?_push_of_some _ e)
end
section
variable {X : Cx}
def rMinT (K : PySem.W.Frag) : List V → Hp → VK → Prop := fun vs H Q => ∃ (a : Addr) (xs : List V) (nss : List (List Int)), vs = [V.ref a] ∧ SqL K H a xs ∧ xs ≠ [] ∧ (∀ i x, xs[i]? = some x → TupI K H x (nss.getD i [])) ∧
  ∀ x, xs[argBest (lexB nss) (xs.length - 1)]? = some x → Q x H
theorem cr_minT (hc : X.calm = true) (hu : X.A.units + 64 < cLine) : CallR X (.builtin "min") (rMinT X.K) := by
  intro pins s σ H vs us Q I r h
  obtain ⟨a, xs, nss, rfl, hs, hne, hx, q⟩ := h
  obtain ⟨its, rv, hl, hz⟩ := I.list hs
  rw [Vals.ref1 r]
  have hlen := rv.length
  have at1 : ∀ (i : Nat) (v : Value), its[i]? = some v → ∃ x, xs[i]? = some x ∧ RelV x v := fun i v e => by
    cases hx : xs[i]? with
    | none => rw [rv.none_of hx] at e; cases e
    | some x =>
      obtain ⟨u, e1, e2⟩ := rv.get hx
      rw [e] at e1
      cases e1
      exact ⟨x, rfl, e2⟩
  refine min_tups (nss := nss) (I.ok.hd hc) hu hl.isList (fun i v e => ?_) (by rw [List.size_toArray, ← hlen]; exact List.length_pos_iff.mpr hne) fun v h' tk hv hk => ?_
  · obtain ⟨x, hx1, hx2⟩ := at1 i v (by simpa using e)
    obtain ⟨t, rfl, ht⟩ := hx i x hx1
    cases hx2
    exact tupI_raw I ht
  · rw [List.size_toArray, ← hlen] at hv
    obtain ⟨x, hx1, hx2⟩ := at1 _ v (by simpa using hv)
    exact ⟨x, H, I.kept hk, hx2, q x hx1⟩
/-- lists of tuples of ints -/
def tupsD : List D → Option (List (List Int))
  | [] => some []
  | .tup es :: ds => match intsD es, tupsD ds with
    | some ns, some nss => some (ns :: nss)
    | _, _ => none
  | _ => none
theorem tupsD.run {K : PySem.W.Frag} {M : MS} {H : Hp} : ∀ {ds : List D} {vs : List V} {nss : List (List Int)}, RpL K M H vs ds → tupsD ds = some nss → (∀ i x, vs[i]? = some x → TupI K H x (nss.getD i [])) ∧ nss.length = ds.length
  | [], _, _, .nil, e => by cases e; exact ⟨fun i x e => by simp at e, rfl⟩
  | d :: ds, v :: vs, nss, .cons q qs, e => by
    cases d with
    | tup es =>
      unfold tupsD at e
      split at e
      · rename_i ns ms h1 h2
        cases e
        obtain ⟨g1, g2⟩ := tupsD.run qs h2
        refine ⟨fun i x e => ?_, by simp [g2]⟩
        cases i with
        | zero =>
          cases e
          obtain ⟨a, ws, rfl, hq, l⟩ := q.seqT
          rw [intsD.run l h1] at hq
          exact ⟨a, rfl, hq⟩
        | succ i => exact g1 i x e
      · cases e
    | _ => cases e
def minTD : List D → Option D
  | [.lst ds] => match tupsD ds with
    | some nss => ds[argBest (lexB nss) (ds.length - 1)]?
    | none => none
  | _ => none
theorem c_minT (hc : X.calm = true) (hu : X.A.units + 64 < cLine) : ∃ r, CallR X (.builtin "min") r ∧ OpN X.K r minTD := by
  refine ⟨_, cr_minT hc hu, fun xs d e M H vs Q m qs k => ?_⟩
  unfold minTD at e
  split at e
  · obtain ⟨v, rfl, q⟩ := qs.one
    obtain ⟨a, ws, rfl, hq, l⟩ := q.seq
    split at e
    · rename_i nss h
      obtain ⟨g1, g2⟩ := tupsD.run l h
      have hl := l.length
      refine ⟨a, ws, nss, rfl, hq, fun z => ?_, g1, fun x hx => ?_⟩
      · subst z
        cases l
        cases e
      · rw [hl] at hx
        obtain ⟨x2, e2, q2⟩ := l.get e
        rw [hx] at e2
        cases e2
        exact k _ H same_rfl q2
    · cases e
  · cases e
/-! ### ranges of any ints -/
theorem turn_long {P : Program} {w : World} {K : PySem.W.Frag} {tg : Expr} (it : Addr) (lo : Int) (n : Nat) : Turn P w K tg (Itr lo n) [it] it (fun i h => IsLongIter h it (lo + (i : Nat) * 1) ((n : Int) - (i : Nat)) 1) where
  mem := List.mem_singleton.mpr rfl
  obj := fun i h st b hb => by
    obtain rfl := List.mem_singleton.mp hb
    exact ⟨_, st, fun v z => nomatch (show Data.fields _ = Data.cell v from z)⟩
  keep := fun i h h' st k => k it (List.mem_singleton.mpr rfl) _ st
  item := by
    intro X hP hw hK hc i pins s σ H E I hf st hg
    subst hP hw hK
    obtain ⟨g0, g1, g2, g3, g4, g5⟩ := hf it (List.mem_singleton.mpr rfl)
    refine (Walks.longrange (prog := X.prog) (w := X.w) (I.ok.hd hc) it lo 1 n).item i s _ _ hg st fun v h' tk hv st' kk => ?_
    obtain ⟨t, rfl⟩ := hv
    have J : Inv X pins σ H { s with heap := h', toks := tk } := I.turned (fun b o hb e => kk b o (fun z => hb (List.mem_singleton.mp z)) e) g0 g1 g3 g4 g5
    refine ⟨_, rfl, go_of (s := { s with heap := h', toks := tk }) (n := "longrange_iterator") st' rfl rfl (by decide) ⟨.int (lo + i), H, J, ⟨t, ?_⟩, ⟨rfl, rfl⟩, st', fun b hb => (hf b hb).1⟩⟩
    rw [Int.mul_one]
  done := by
    intro X hP hw hK hc i pins s σ H E I hf st hg
    subst hP hw hK
    obtain ⟨g0, g1, g2, g3, g4, g5⟩ := hf it (List.mem_singleton.mpr rfl)
    exact wpAny_pyNext_long_end (I.ok.hd hc) st (by have : n ≤ i := hg; omega) fun h' eb => ⟨rfl, I.turned (t' := s.toks) (fun b o hb e => eb b o hb e) g0 g1 g3 g4 g5⟩
  self := fun _ _ _ _ _ st h => wpAny_pyIter_longiter st h
theorem range_any {tg : Expr} {pins : List (Addr × Obj)} {σ : L2.St} {H : Hp} {s : Shared} {R : It → Hp → Prop} {E : Value → Shared → Prop} {lo hi : Int} {t u v : Tok} {tk : Nat} (I : Inv X pins σ H s) (q : R (Itr lo (hi - lo).toNat) H) :
    wpAny (model X.prog X.w) X.A (pyIter (.ref s.heap.objs.size)) (PIE X pins σ tg R) E { s with heap := s.heap.push { cls := .type "range", data := .fields #[.int lo t, .int hi u, .int 1 v] }, toks := tk } := by
  have J : Inv X pins σ H { s with heap := s.heap.push { cls := .type "range", data := .fields #[.int lo t, .int hi u, .int 1 v] }, toks := tk } := I.kept fun b o e => Heap.get?_push_of_some _ e
  have e1 : lo + ((0 : Nat) : Int) * 1 = lo := by simp
  have e2 : (((hi - lo).toNat : Nat) : Int) - ((0 : Nat) : Int) = Builtin.Range.rangeSize lo hi 1 := by rw [rangeSize_one]; split <;> omega
  have fp : ∀ b ∈ [(s.heap.push { cls := .type "range", data := .fields #[.int lo t, .int hi u, .int 1 v] }).objs.size], FpOk X pins H b := fun b hb => by
    obtain rfl := List.mem_singleton.mp hb
    exact J.fpOk (Nat.le_refl _) (J.hok.fresh (Nat.le_refl _))
  cases hs : Builtin.Range.small lo hi 1 with
  | true =>
    refine wpAny_pyIter_range (IsRange.new ..) hs ⟨_, [_], _, _, H, rfl, J.kept (t' := tk) fun b o e => Heap.get?_push_of_some _ e, turn_range _ lo (hi - lo).toNat, ?_, fp, q⟩
    show IsRangeIter _ _ (lo + ((0 : Nat) : Int) * 1) ((((hi - lo).toNat : Nat) : Int) - ((0 : Nat) : Int)) 1
    rw [e1, e2]
    exact Heap.get?_push_size _ rfl
  | false =>
    refine wpAny_pyIter_longrange (IsRange.new ..) hs ⟨_, [_], _, _, H, rfl, J.kept (t' := tk) fun b o e => Heap.get?_push_of_some _ e, turn_long _ lo (hi - lo).toNat, ?_, fp, q⟩
    show IsLongIter _ _ (lo + ((0 : Nat) : Int) * 1) ((((hi - lo).toNat : Nat) : Int) - ((0 : Nat) : Int)) 1
    rw [e1, e2]
    exact Heap.get?_push_size _ rfl
def iAny2 (ta : TA) : TI := fun σ H R => ta σ H fun vs H1 => ∃ i j : Int, vs = [.int i, .int j] ∧ R (Itr i (j - i).toNat) H1
theorem pi_any2 {tg a b : Expr} {ta : TA} {p pos : Pos} (hg : Gl X "range") (hm : X.mg "range" = none) (ha : PA X [a, b] ta) (hs : starEach [a, b] X.env = [(false, eval a X.env), (false, eval b X.env)] := by rfl) (hs2 : starEach [b] X.env = [(false, eval b X.env)] := by rfl) :
    PI X tg (.Call (.Name "range" p) [a, b] [] pos) (iAny2 ta) := ⟨fun pins s σ H R I h => by
  refine Call_ (ld_blt I hg hm (u := .type "range") (by decide +kernel) (PyProof.Rows.callWith_type1 (thn (ha.run pos pins s σ H _ I h) fun us s1 ⟨vs, H1, J, r1, i, j, e, q⟩ => ?_) (by rw [hs, hs2]) (by rw [hs2]; rfl)))
  subst e
  obtain ⟨u1, u2, rfl, ⟨t, rfl⟩, ⟨t', rfl⟩⟩ := Vals.two r1
  exact call_range_2 (range_any J q)⟩
def rngWF (f g : F D) : F (List D) := fun s => (f s).bind fun x s1 => (g s1).bind fun y s2 => match x, y with
  | .int a, .int b => .ok (rngD a b) s2
  | _, _ => .no
theorem si_rngW {B : Bs} {W : WX} {tg e e2 : Expr} {f g : F D} {p pos : Pos} (hg : Gl X "range") (hm : X.mg "range" = none) (he : SE X B W e f) (he2 : SE X B W e2 g) (hs : starEach [e, e2] X.env = [(false, eval e X.env), (false, eval e2 X.env)] := by rfl) (hs2 : starEach [e2] X.env = [(false, eval e2 X.env)] := by rfl) : SI X B W tg (.Call (.Name "range" p) [e, e2] [] pos) (rngWF f g) := by
  refine PI.imp (pi_any2 hg hm (pa_cons he (pa_cons he2 pa_nil hs2) (by rw [hs, hs2])) hs hs2) fun σ H Q ⟨M, s, r, p⟩ => ⟨M, s, r, PostI.bind p fun x s1 M1 H1 v r1 q1 ev1 p1 => ⟨M1, s1, r1, PostI.bind p1 fun y s2 M2 H2 u r2 q2 ev2 p2 => ?_⟩⟩
  split at p2
  · cases q1
    cases q2
    exact ⟨_, _, rfl, p2.out r2 wk_rng⟩
  · exact p2.elim
end
end Fx

set_option Elab.async false
set_option linter.all false
set_option maxRecDepth 100000
namespace Fx
open PySem L2 PyProof.Rows
/-! ### the rules as a printing program uses them -/
theorem bt_len : bootBuiltins "len" = some (.builtin "len") := by decide +kernel
theorem bt_isinstance : bootBuiltins "isinstance" = some (.builtin "isinstance") := by decide +kernel
theorem bt_abs : bootBuiltins "abs" = some (.builtin "abs") := by decide +kernel
theorem bt_divmod : bootBuiltins "divmod" = some (.builtin "divmod") := by decide +kernel
theorem bt_sorted : bootBuiltins "sorted" = some (.builtin "sorted") := by decide +kernel
theorem bt_sum : bootBuiltins "sum" = some (.builtin "sum") := by decide +kernel
theorem bt_max : bootBuiltins "max" = some (.builtin "max") := by decide +kernel
theorem bt_min : bootBuiltins "min" = some (.builtin "min") := by decide +kernel
theorem bt_repr : bootBuiltins "repr" = some (.builtin "repr") := by decide +kernel
theorem bt_all : bootBuiltins "all" = some (.builtin "all") := by decide +kernel
theorem bt_any : bootBuiltins "any" = some (.builtin "any") := by decide +kernel
theorem bt_int : bootBuiltins "int" = some (.type "int") := by decide +kernel
theorem bt_bool : bootBuiltins "bool" = some (.type "bool") := by decide +kernel
theorem bt_str : bootBuiltins "str" = some (.type "str") := by decide +kernel
theorem bt_list : bootBuiltins "list" = some (.type "list") := by decide +kernel
theorem bt_tuple : bootBuiltins "tuple" = some (.type "tuple") := by decide +kernel
theorem bt_dict : bootBuiltins "dict" = some (.type "dict") := by decide +kernel
theorem bt_set : bootBuiltins "set" = some (.type "set") := by decide +kernel
theorem bt_float : bootBuiltins "float" = some (.type "float") := by decide +kernel
theorem bt_bytes : bootBuiltins "bytes" = some (.type "bytes") := by decide +kernel
theorem bt_range : bootBuiltins "range" = some (.type "range") := by decide +kernel
theorem bt_enumerate : bootBuiltins "enumerate" = some (.type "enumerate") := by decide +kernel
theorem bt_zip : bootBuiltins "zip" = some (.type "zip") := by decide +kernel
theorem bt_reversed : bootBuiltins "reversed" = some (.type "reversed") := by decide +kernel
section
variable {X : Cx} {B : Bs} {W : WX} {a b c e : Expr} {es : List Expr} {f g h : F D} {k : F (List D)} {pos : Pos}
theorem se_O {op : Operator} {o : D → D → Option D} (hK : X.K = B.K) (ho : ∃ r, OpR X (binaryOp op) r ∧ Op2 X.K r o) (ha : SE X B W a f) (hb : SE X B W b g) : SE X B W (.BinOp a op b pos) (op2F o f g) := by
  obtain ⟨r, h1, h2⟩ := ho
  exact se_bin h1 (hK ▸ h2) ha hb
theorem se_C {op : CmpOp} {o : D → D → Option D} (hK : X.K = B.K) (ho : ∃ r, OpR X (compareOp op) r ∧ Op2 X.K r o) (ha : SE X B W a f) (hb : SE X B W b g) (hm : behindInMarks op b = false := by rfl) : SE X B W (.Compare a [op] [b] pos) (op2F o f g) := by
  obtain ⟨r, h1, h2⟩ := ho
  exact se_cmp h1 (hK ▸ h2) ha hb hm
theorem st_C {op : CmpOp} {o : D → D → Option D} (hK : X.K = B.K) (ho : ∃ r, OpR X (compareOp op) r ∧ Op2 X.K r o) (ha : SE X B W a f) (hb : SE X B W b g) (hm : behindInMarks op b = false := by rfl) : ST X B W (.Compare a [op] [b] pos) (tstF (op2F o f g)) := by
  obtain ⟨r, h1, h2⟩ := ho
  exact st_cmp h1 (hK ▸ h2) ha hb hm
theorem se_C2 {op op' : CmpOp} {o o' : D → D → Option D} (hK : X.K = B.K) (ho : ∃ r, OpR X (compareOp op) r ∧ Op2 X.K r o) (ho' : ∃ r, OpR X (compareOp op') r ∧ Op2 X.K r o') (ha : SE X B W a f) (hb : SE X B W b g) (hc : SE X B W c h)
    (hm : lastMarks [op, op'] [b, c] = false := by with_unfolding_all rfl) : SE X B W (.Compare a [op, op'] [b, c] pos) (chainF o o' f g h) := by
  obtain ⟨r, h1, h2⟩ := ho
  obtain ⟨r', h1', h2'⟩ := ho'
  exact se_chain h1 h1' (hK ▸ h2) (hK ▸ h2') ha hb hc hm
theorem se_neg (hK : X.K = B.K) (ha : SE X B W a f) : SE X B W (.UnaryOp .USub a pos) (op1F negD f) := by
  obtain ⟨r, h1, h2⟩ := op_negD (X := X)
  exact se_un h1 (hK ▸ h2) ha
theorem se_B {x : Str} {id : String} {p : Pos} {o : List D → Option D} (hK : X.K = B.K) (hc : ∃ r, CallR X (.builtin id) r ∧ OpN X.K r o) (hv : bootBuiltins x = some (.builtin id)) (hm : X.mg x = none) (ha : SA X B W (e :: es) k) (hg : Gl X x := by rfl) (hn : x ≠ "__name__" := by decide) (hdb : (x == ("__debug__" : Str)) = false := by decide)
    (he : starEach (e :: es) X.env = (false, eval e X.env) :: starEach es X.env := by rfl) (hpl : (backTo pos (starEach es X.env)).any (·.1) = false := by rfl) : SE X B W (.Call (.Name x p) (e :: es) [] pos) (opnF o k) := by
  obtain ⟨r, h1, h2⟩ := hc
  exact se_callB h1 (hK ▸ h2) hg hm hv ha hn hdb he hpl
theorem se_T {x : Str} {id : String} {p : Pos} {o : List D → Option D} (hK : X.K = B.K) (hc : ∃ r, CallR X (.type id) r ∧ OpN X.K r o) (hv : bootBuiltins x = some (.type id)) (hm : X.mg x = none) (ha : SA X B W (e :: es) k) (hg : Gl X x := by rfl) (hn : x ≠ "__name__" := by decide) (hdb : (x == ("__debug__" : Str)) = false := by decide)
    (he : starEach (e :: es) X.env = (false, eval e X.env) :: starEach es X.env := by rfl) (hpl : (backTo pos (starEach es X.env)).any (·.1) = false := by rfl) : SE X B W (.Call (.Name x p) (e :: es) [] pos) (opnF o k) := by
  obtain ⟨r, h1, h2⟩ := hc
  exact se_callTy h1 (hK ▸ h2) hg hm hv ha hn hdb he hpl
theorem sn_B {x : Str} {id : String} {p : Pos} {o : List D → Option (List D)} (hK : X.K = B.K) (hc : ∃ r, CallR X (.builtin id) r ∧ OpW X.K r o) (hv : bootBuiltins x = some (.builtin id)) (hm : X.mg x = none) (ha : SA X B W (e :: es) k) (hg : Gl X x := by rfl) (hn : x ≠ "__name__" := by decide) (hdb : (x == ("__debug__" : Str)) = false := by decide)
    (he : starEach (e :: es) X.env = (false, eval e X.env) :: starEach es X.env := by rfl) (hpl : (backTo pos (starEach es X.env)).any (·.1) = false := by rfl) : SN X B W (.Call (.Name x p) (e :: es) [] pos) (opnN o k) := by
  obtain ⟨r, h1, h2⟩ := hc
  exact sn_callB h1 (hK ▸ h2) hg hm hv ha hn hdb he hpl
theorem sn_T {x : Str} {id : String} {p : Pos} {o : List D → Option (List D)} (hK : X.K = B.K) (hc : ∃ r, CallR X (.type id) r ∧ OpW X.K r o) (hv : bootBuiltins x = some (.type id)) (hm : X.mg x = none) (ha : SA X B W (e :: es) k) (hg : Gl X x := by rfl) (hn : x ≠ "__name__" := by decide) (hdb : (x == ("__debug__" : Str)) = false := by decide)
    (he : starEach (e :: es) X.env = (false, eval e X.env) :: starEach es X.env := by rfl) (hpl : (backTo pos (starEach es X.env)).any (·.1) = false := by rfl) : SN X B W (.Call (.Name x p) (e :: es) [] pos) (opnN o k) := by
  obtain ⟨r, h1, h2⟩ := hc
  exact sn_callTy h1 (hK ▸ h2) hg hm hv ha hn hdb he hpl
/-! ### a, b = x, y by plain local names -/
def parG (i j : Nat) (k : F (List D)) : G := fun s => (k s).out fun ds s1 => match ds with
  | [x, y] => if okSl s1 i = true ∧ okSl (s1.set i (.va x)) j = true then .nx ((s1.set i (.va x)).set j (.va y)) else .no
  | _ => .no
def par3G (i j l : Nat) (k : F (List D)) : G := fun s => (k s).out fun ds s1 => match ds with
  | [x, y, z] => if okSl s1 i = true ∧ okSl (s1.set i (.va x)) j = true ∧ okSl ((s1.set i (.va x)).set j (.va y)) l = true then .nx (((s1.set i (.va x)).set j (.va y)).set l (.va z)) else .no
  | _ => .no
theorem ss_par {i j : Nat} {x y : Str} {px py pt : Pos} {kt k2 pt2} (hc : X.calm = true) (hN : X.N.Nodup) (hi : X.N[i]? = some x) (hj : X.N[j]? = some y) (hij : i ≠ j) (hx : X.env.scope.names.lookup x = some .local) (hy : X.env.scope.names.lookup y = some .local) (ha : SA X B W [a, b] k)
    (hw : swappedStores [.Tuple [.Name x px, .Name y py] kt pt] (.Tuple [a, b] k2 pt2) X.env = pure (some [x, y]))
    (hs : swapsWithSole [.Tuple [.Name x px, .Name y py] kt pt] (.Tuple [a, b] k2 pt2) pos.line X.env = pure false := by rfl) : SS X B W (.Assign [.Tuple [.Name x px, .Name y py] kt pt] (.Tuple [a, b] k2 pt2) pos) (parG i j k) := by
  refine PS.imp (ps_par hc hN hi hj hij hx hy ha hw hs) fun E σ H ⟨M, s, r, p⟩ => ⟨M, s, r, PostS.bind p fun ds s1 M1 H1 vs r1 q1 ev1 p1 => ?_⟩
  split at p1
  · split at p1
    · rename_i h
      obtain ⟨v, u, rfl, q1, q2⟩ := RpL.two q1
      exact ⟨v, u, rfl, p1 _ H1 M1 ((r1.put q1 (okSl.io h.1) (okSl.lt h.1)).put q2 (okSl.io h.2) (okSl.lt h.2)) .rfl⟩
    · exact p1.elim
  · exact p1.elim
theorem ss_par3 {i j l : Nat} {x y z : Str} {px py pz pt : Pos} {kt k2 pt2} (hc : X.calm = true) (hN : X.N.Nodup) (hi : X.N[i]? = some x) (hj : X.N[j]? = some y) (hl : X.N[l]? = some z) (hij : i ≠ j) (hil : i ≠ l) (hjl : j ≠ l) (hx : X.env.scope.names.lookup x = some .local) (hy : X.env.scope.names.lookup y = some .local) (hz : X.env.scope.names.lookup z = some .local) (ha : SA X B W [a, b, c] k)
    (hw : swappedStores [.Tuple [.Name x px, .Name y py, .Name z pz] kt pt] (.Tuple [a, b, c] k2 pt2) X.env = pure (some [x, y, z]))
    (hs : swapsWithSole [.Tuple [.Name x px, .Name y py, .Name z pz] kt pt] (.Tuple [a, b, c] k2 pt2) pos.line X.env = pure false := by rfl) : SS X B W (.Assign [.Tuple [.Name x px, .Name y py, .Name z pz] kt pt] (.Tuple [a, b, c] k2 pt2) pos) (par3G i j l k) := by
  refine PS.imp (ps_par3 hc hN hi hj hl hij hil hjl hx hy hz ha hw hs) fun E σ H ⟨M, s, r, p⟩ => ⟨M, s, r, PostS.bind p fun ds s1 M1 H1 vs r1 q1 ev1 p1 => ?_⟩
  split at p1
  · split at p1
    · rename_i h
      cases q1 with
      | cons q1 t =>
        obtain ⟨v, u, rfl, q2, q3⟩ := RpL.two t
        exact ⟨_, v, u, rfl, p1 _ H1 M1 (((r1.put q1 (okSl.io h.1) (okSl.lt h.1)).put q2 (okSl.io h.2.1) (okSl.lt h.2.1)).put q3 (okSl.io h.2.2) (okSl.lt h.2.2)) .rfl⟩
    · exact p1.elim
  · exact p1.elim
/-! ### more to go through -/
theorem si_lst {tg : Expr} (hK : X.K = B.K) (he : SE X B W e f) : SI X B W tg e (iterF f) := si_seq hK he
end
/-! ### what is known of the text -/
section
variable {P : Program} {w : World} {K : PySem.W.Frag} {mg : Str → Option Value} {base : Heap}
/-- the def stands under its name -/
structure FunAt (K : PySem.W.Frag) (mg : Str → Option Value) (x : Str) (st : Stmt) : Prop where
  ex : ∃ (f : Addr) (fd : FuncData), Fun K x x st f fd ∧ mg x = some (.ref f)
theorem Kn.of {x : Str} {st : Stmt} {N ps : List Str} {k n : Nat} {io : Bool} {g : G} (F : FunAt K mg x st) (S : FnScope N ps (defScope st)) (hn : N.length = n)
    (h : ∀ (f : Addr) (cdv : Value) (A : Around) (outer : List Env) (s : Shared) (H : Hp) (E : XK), Room k (cxD P w K mg base N x (defScope st) f cdv A outer s H E).A → (cxD P w K mg base N x (defScope st) f cdv A outer s H E).A.guards = some [] →
      ∀ B : Bs, B.K = K → SSs (cxD P w K mg base N x (defScope st) f cdv A outer s H E) B (fun cls d _ H => E cls d H) (defBody st) g) :
    Kn P w K mg base x x st (k + 1) io ps (bodyF n io g) := by
  subst hn
  obtain ⟨f, fd, F, hm⟩ := F.ex
  exact ⟨f, fd, F, fn_mk F S (h f), hm⟩
theorem Fun.same {x qual : Str} {st : Stmt} {f : Addr} {fd fd' : FuncData} (F : Fun K x qual st f fd) (F' : Fun K x qual st f fd') : fd = fd' := by
  obtain ⟨_, _, _, _, _, _, _, _, _, rfl, h, _⟩ := F.ex
  obtain ⟨_, _, _, _, _, _, _, _, _, rfl, h', _⟩ := F'.ex
  have e := Option.some.inj (h.symm.trans h')
  injection e with _ _ e _
  injection e
/-- a module's constant -/
structure Cn (K : PySem.W.Frag) (mg : Str → Option Value) (x : Str) (d : D) : Prop where
  ex : ∃ (v : V) (u : Value), mg x = some u ∧ RelV v u ∧ ∀ M H, Rp K M H v d
theorem Cn.glb {X : Cx} {B : Bs} {x : Str} {d : D} (c : Cn K mg x d) (h1 : X.mg = mg) (h2 : B.K = K) : Glb X B x d := by
  obtain ⟨v, u, a, b, q⟩ := c.ex
  exact ⟨v, u, h1 ▸ a, b, h2 ▸ q⟩
theorem Cn.int {x : Str} {i : Int} {t : Tok} (h : mg x = some (.int i t)) : Cn K mg x (.int i) := ⟨.int i, _, h, ⟨t, rfl⟩, fun _ _ => .int i⟩
/-- a tuple of texts -/
theorem Cn.strs {x : Str} {a : Addr} {its : Array Value} {n : Nat} {xs : List Str} (h : mg x = some (.ref a)) (hl : K.lookup a = some ⟨.type "tuple", .none, .seq its n, #[]⟩) (hz : its.size ≤ sizeLine) (hx : Vals (xs.map V.str) its.toList) : Cn K mg x (.tup (xs.map D.str)) :=
  ⟨.ref a, _, h, rfl, fun M H => .tupK ⟨_, its, n, hl, rfl, rfl, hz, hx⟩ (by
    clear hx
    induction xs with
    | nil => exact .nil
    | cons x xs ih => exact .cons (.str x) ih)⟩
end
/-- the law's promise, by what it does -/
theorem law_end_of {F : List D → FR} (hF : ∀ ns : List Int, ns.length ≤ 63 → F [.fz (ns.map .int)] = .ret (.bl true) []) (K : PySem.W.Frag) (H : Hp) (a : Addr) (ns : List Int) (hl : ns.length ≤ 63) (h : Rd H a (.lst (ns.map V.int)) ∨ ∀ H, SqL K H a (ns.map V.int)) :
    spF K false 1 F [.ref a] H (fun v _ => v = .bl true) fun _ _ _ => False := by
  refine ⟨rfl, fun _ => False, [.fz (ns.map .int)], fun b z => z.elim, .cons ?_ .nil, ?_⟩
  · rcases h with h | h
    · exact .fz h (fun z => z) (intsD.back ns)
    · exact .fzK h (intsD.back ns)
  · rw [hF ns hl]
    intro v H' _ _ q
    cases q
    rfl
end Fx

set_option Elab.async false
set_option linter.all false
set_option maxRecDepth 100000
namespace Fx
open PySem L2 PyProof.Rows
/-! ### what the functions do, step by step (for simp) -/
section
variable {s : List Sl} {i n : Nat} {d x y : D} {ds as : List D} {f g h : F D} {k kk : F (List D)} {u v : F Bool} {a : AS} {G1 G2 : G}
theorem ev_bad {α β : Type} {r : R α} {F1 : α → List Sl → R β} : r.bind F1 = match r with | .ok a s => F1 a s | .er x s => .er x s | .no => .no := rfl
theorem ev_name : nameF i s = match s[i]? with | some (.va d) => .ok d s | some (.ow ds) => .ok (.lst ds) (s.set i (.va (.lst ds))) | _ => .no := rfl
theorem ev_c : cF d s = .ok d s := rfl
theorem ev_op2 {o : D → D → Option D} : op2F o f g s = (f s).bind fun x s1 => (g s1).bind fun y s2 => toR (o x y) s2 := rfl
theorem ev_op1 {o : D → Option D} : op1F o f s = (f s).bind fun x s1 => toR (o x) s1 := rfl
theorem ev_toR1 : toR (some d) s = .ok d s := rfl
theorem ev_toRL1 : toRL (some ds) s = .ok ds s := rfl
theorem ev_nil : nilF s = .ok [] s := rfl
theorem ev_cons : consF f k s = (f s).bind fun x s1 => (k s1).bind fun xs s2 => .ok (x :: xs) s2 := rfl
theorem ev_opn {o : List D → Option D} : opnF o k s = (k s).bind fun xs s1 => toR (o xs) s1 := rfl
theorem ev_opnN {o : List D → Option (List D)} : opnN o k s = (k s).bind fun xs s1 => toRL (o xs) s1 := rfl
theorem ev_tup : tupF k s = (k s).bind fun xs s1 => if xs.length ≤ sizeLine then .ok (.tup xs) s1 else .no := rfl
theorem ev_lst : lstF k s = (k s).bind fun xs s1 => if xs.length ≤ sizeLine then .ok (.lst xs) s1 else .no := rfl
theorem ev_lstN : lstN k s = (k s).bind fun xs s1 => if xs.length ≤ sizeLine then .ok xs s1 else .no := rfl
theorem ev_new : lstF' k s = (k s).bind fun ds s1 => .ok (.lst ds) s1 := rfl
theorem ev_tst : tstF f s = (f s).bind fun x s1 => match x with | .bl b => .ok b s1 | _ => .no := rfl
theorem ev_notT : notT u s = (u s).bind fun c s1 => .ok (!c) s1 := rfl
theorem ev_andT : andT u v s = (u s).bind fun c s1 => if c = true then v s1 else .ok false s1 := rfl
theorem ev_orT : orT u v s = (u s).bind fun c s1 => if c = true then .ok true s1 else v s1 := rfl
theorem ev_notF : notF f s = (f s).bind fun x s1 => match x with | .bl b => .ok (.bl (!b)) s1 | _ => .no := rfl
theorem ev_andF : andF f g s = (f s).bind fun x s1 => match x with | .bl true => g s1 | .bl false => .ok (.bl false) s1 | _ => .no := rfl
theorem ev_orF : orF f g s = (f s).bind fun x s1 => match x with | .bl false => g s1 | .bl true => .ok (.bl true) s1 | _ => .no := rfl
theorem ev_ifF : ifF u f g s = (u s).bind fun c s1 => if c = true then f s1 else g s1 := rfl
theorem ev_yes : yesT s = .ok true s := rfl
theorem ev_iter : iterF f s = (f s).bind fun d s1 => match d with | .lst ds => .ok ds s1 | .tup ds => .ok ds s1 | .fz ds => .ok ds s1 | _ => .no := rfl
theorem ev_rng1 : rng1F f s = (f s).bind fun x s1 => match x with | .int n => if sm62 n = true then .ok (rngD 0 n) s1 else .no | _ => .no := rfl
theorem ev_rng2 : rng2F f g s = (f s).bind fun x s1 => (g s1).bind fun y s2 => match x, y with | .int a, .int b => if sm62 a = true ∧ sm62 b = true then .ok (rngD a b) s2 else .no | _, _ => .no := rfl
theorem ev_rngW : rngWF f g s = (f s).bind fun x s1 => (g s1).bind fun y s2 => match x, y with | .int a, .int b => .ok (rngD a b) s2 | _, _ => .no := rfl
theorem ev_noP : noPartF s = .ok none s := rfl
theorem ev_sl {lo hi : F (Option Int)} : slF f lo hi s = (f s).bind fun d s1 => (lo s1).bind fun l s2 => (hi s2).bind fun h s3 => toR (slD d l h) s3 := rfl
theorem ev_part : partF f s = (f s).bind fun d s1 => match d with | .int i => .ok (some i) s1 | _ => .no := rfl
-- statements
theorem ev_next : nextG s = .nx s := rfl
theorem ev_noG : noG s = .no := rfl
theorem ev_seq : seqG G1 G2 s = match G1 s with | .nx s1 => G2 s1 | .rt d s1 => .rt d s1 | .rn d s1 => .rn d s1 | .bk s1 => .bk s1 | .ct s1 => .ct s1 | .er x s1 => .er x s1 | .no => .no := rfl
theorem ev_drop : dropG f s = (f s).out fun _ s1 => .nx s1 := rfl
theorem ev_ret : retG f s = (f s).out fun d s1 => .rt d s1 := rfl
theorem ev_retN : retNG k s = (k s).out fun d s1 => .rn d s1 := rfl
theorem ev_if : ifG u G1 G2 s = (u s).out fun b s1 => if b = true then G1 s1 else G2 s1 := rfl
theorem ev_asg : asgG f a s = (f s).out fun d s1 => match a d s1 with | some s2 => .nx s2 | none => .no := rfl
theorem ev_setA : setA i d s = if okSl s i = true then some (s.set i (.va d)) else none := rfl
theorem ev_nilA : nilA [] s = some s := rfl
theorem ev_consA {b : ASs} : consA a b (d :: ds) s = (a d s).bind fun s1 => b ds s1 := rfl
theorem ev_seqT {b : ASs} : seqA n b (.tup ds) s = if ds.length = n then b ds s else none := rfl
theorem ev_seqL {b : ASs} : seqA n b (.lst ds) s = if ds.length = n then b ds s else none := rfl
theorem ev_setN : setNG i k s = (k s).out fun ds s1 => if okSl s1 i = true then .nx (s1.set i (.ow ds)) else .no := rfl
def ioSl : Sl → Bool
  | .io _ => true
  | _ => false
def owSl : Sl → Bool
  | .io _ => true
  | .ow _ => true
  | _ => false
theorem ev_ok : okSl s i = match s[i]? with | some x => !ioSl x | none => false := by
  unfold okSl
  cases s[i]? with
  | none => rfl
  | some x => cases x <;> rfl
theorem ev_ioV : ioSl (.va d) = false := rfl
theorem ev_ioU : ioSl .un = false := rfl
theorem ev_ioW : ioSl (.ow ds) = false := rfl
theorem ev_owV : owSl (.va d) = false := rfl
theorem ev_owU : owSl .un = false := rfl
/-- a slot that holds a value, or nothing -/
def Pl (x : Sl) : Prop := ioSl x = false ∧ owSl x = false
theorem Pl.va {d : D} : Pl (.va d) := ⟨rfl, rfl⟩
theorem Pl.un : Pl .un := ⟨rfl, rfl⟩
theorem ev_own : ownAt s i = match s[i]? with | some (.va (.lst ds)) => some ds | some (.ow ds) => some ds | some (.io ds) => some ds | _ => none := rfl
theorem ev_put : ownPut s i ds = match s[i]? with | some (.ow _) => some (s.set i (.ow ds)) | some (.io _) => some (s.set i (.io ds)) | _ => none := rfl
theorem ev_ixOwn : ixOwnF i g s = match ownAt s i with | none => .no | some _ => (g s).bind fun y s1 => match y, ownAt s1 i with | .int j, some ds => toR (atD ds j) s1 | _, _ => .no := rfl
theorem ev_lenOwn : lenOwnF i s = match ownAt s i with | some ds => .ok (.int ds.length) s | none => .no := rfl
theorem ev_setIx : setIxG i g f s = (f s).out fun y s1 => match ownAt s1 i with
  | none => .no
  | some _ => (g s1).out fun j s2 => match j, ownAt s2 i with
    | .int j, some ds => match ixN ds.length j with
      | some n => match ownPut s2 i (ds.set n y) with
        | some s3 => .nx s3
        | none => .no
      | none => .no
    | _, _ => .no := rfl
theorem ev_for : forG k a G1 s = (k s).out fun ds s1 => forL a G1 ds s1 := rfl
theorem ev_comp {vs : List Nat} : compN k vs a u f s = (k s).bind fun ds s1 =>
  if ds.length < sizeLine ∧ vs.all (okC s1) = true then match compL vs a u f ds s1 with
    | .ok ys s2 => .ok ys (restS s1 s2 vs)
    | _ => .no
  else .no := rfl
theorem ev_compL0 {vs : List Nat} : compL vs a u f [] s = .ok [] s := rfl
theorem ev_compL1 {vs : List Nat} : compL vs a u f (d :: ds) s = match a d (wipeS s vs) with
    | none => .no
    | some s1 => match u s1 with
      | .ok true s2 => match f s2 with
        | .ok y s3 => match compL vs a u f ds s3 with
          | .ok ys s4 => .ok (y :: ys) s4
          | _ => .no
        | _ => .no
      | .ok false s2 => compL vs a u f ds s2
      | _ => .no := rfl
theorem ev_okC : okC s i = match s[i]? with | some x => !owSl x | none => true := by
  unfold okC
  cases s[i]? with
  | none => rfl
  | some x => cases x <;> rfl
theorem ev_wipe1 {v : Nat} {vs : List Nat} : wipeS s (v :: vs) = (wipeS s vs).set v .un := rfl
theorem ev_wipe0 : wipeS s [] = s := rfl
theorem ev_rest1 {s3 : List Sl} {v : Nat} {vs : List Nat} : restS s s3 (v :: vs) = (restS s s3 vs).set v (s.getD v .un) := rfl
theorem ev_rest0 {s3 : List Sl} : restS s s3 [] = s3 := rfl
theorem ev_call {Fn : List D → FR} {gD : List D → List D → List D} : callF Fn n gD k kk s = (k s).bind fun ds s1 => (kk s1).bind fun es s2 => if (gD ds es).length = n then ofFR (Fn (gD ds es)) (fun _ => s2) else .no := rfl
theorem ev_callN {Fn : List D → FR} {gD : List D → List D → List D} : callN Fn n gD k kk s = (k s).bind fun ds s1 => (kk s1).bind fun es s2 => if (gD ds es).length = n then ofFRN (Fn (gD ds es)) (fun _ => s2) else .no := rfl
theorem ev_ofr {ios : List D} {w : List D → List Sl} : ofFR (.ret d ios) w = .ok d (w ios) := rfl
theorem ev_ofn {ios : List D} {w : List D → List Sl} : ofFR (.retn ds ios) w = .ok (.lst ds) (w ios) := rfl
theorem ev_ofnN {ios : List D} {w : List D → List Sl} : ofFRN (.retn ds ios) w = .ok ds (w ios) := rfl
theorem ev_io {Fn : List D → FR} : callIoF Fn n i k s = match ownAt s i with
  | none => .no
  | some _ => (k s).bind fun ds s1 => if ds.length + 1 = n then match s1[i]? with
    | some (.ow as) => ofFR (Fn (.lst as :: ds)) fun ios => s1.set i (.ow ios)
    | some (.io as) => ofFR (Fn (.lst as :: ds)) fun ios => s1.set i (.io ios)
    | _ => .no
    else .no := rfl
-- values
theorem ev_addI {i j : Int} : addD (.int i) (.int j) = some (.int (i + j)) := rfl
theorem ev_subI {i j : Int} : subD (.int i) (.int j) = some (.int (i - j)) := rfl
theorem ev_mulS {i j : Int} (h : CMul i j) : mulD (.int i) (.int j) = some (.int (i * j)) := if_pos (.inl h)
theorem ev_modI {i j : Int} (h : 0 < j) : modD (.int i) (.int j) = some (.int (i % j)) := if_pos h
theorem ev_fdivI {i j : Int} (h : 0 < j) (h2 : j.natAbs.log2 < 9000) : fdivD (.int i) (.int j) = some (.int (i / j)) := if_pos ⟨h, h2⟩
theorem ev_powI {i j : Int} (h : 0 ≤ j ∧ j ≤ 1000000 ∧ i.natAbs < 2 ^ 64) : powD (.int i) (.int j) = some (.int (i ^ j.toNat)) := if_pos h
theorem ev_negI {i : Int} : negD (.int i) = some (.int (-i)) := rfl
theorem ev_cmpI {p : Int → Int → Bool} {i j : Int} : cmpD p (.int i) (.int j) = some (.bl (p i j)) := rfl
theorem ev_eqI {i j : Int} : eqD (.int i) (.int j) = some (.bl (decide (i = j))) := rfl
theorem ev_neI {i j : Int} : neD (.int i) (.int j) = some (.bl (!decide (i = j))) := rfl
theorem ev_eqS {i j : Str} : eqD (.str i) (.str j) = some (.bl (decide (i = j))) := rfl
theorem ev_neS {i j : Str} : neD (.str i) (.str j) = some (.bl (!decide (i = j))) := rfl
theorem ev_intI {i : Int} : intD [.int i] = some (.int i) := rfl
theorem ev_intB {b : Bool} : intD [.bl b] = some (.int (if b then 1 else 0)) := rfl
theorem ev_absI {i : Int} : absD [.int i] = some (.int (if i < 0 then -i else i)) := rfl
theorem ev_lenL : lenD [.lst ds] = some (.int ds.length) := rfl
theorem ev_lenT : lenD [.tup ds] = some (.int ds.length) := rfl
theorem ev_ixL {j : Int} : ixD (.lst ds) (.int j) = atD ds j := rfl
theorem ev_ixT {j : Int} : ixD (.tup ds) (.int j) = atD ds j := rfl
theorem ev_at0 : atD (d :: ds) 0 = some d := by
  unfold atD ixN
  rw [if_pos (Int.le_refl 0), if_pos (by rw [List.length_cons]; omega)]
  rfl
theorem ev_at1 {e : D} : atD (d :: e :: ds) 1 = some e := by
  unfold atD ixN
  rw [if_pos (by omega), if_pos (by rw [List.length_cons, List.length_cons]; omega)]
  rfl
theorem ev_at2 {e c : D} : atD (d :: e :: c :: ds) 2 = some c := by
  unfold atD ixN
  rw [if_pos (by omega), if_pos (by rw [List.length_cons, List.length_cons, List.length_cons]; omega)]
  rfl
theorem ev_nat {i : Nat} (h : ds[i]? = some d) : atD ds (i : Int) = some d := by
  have hi : i < ds.length := (List.getElem?_eq_some_iff.mp h).1
  unfold atD ixN
  rw [if_pos (by omega), if_pos (by omega)]
  exact h
theorem ev_int {j : Int} (h0 : 0 ≤ j) (h : ds[j.toNat]? = some d) : atD ds j = some d := by
  have := ev_nat h
  rwa [Int.toNat_of_nonneg h0] at this
theorem ev_ixN {n : Nat} {j : Int} (h0 : 0 ≤ j) (h : j < n) : ixN n j = some j.toNat := by
  unfold ixN
  rw [if_pos h0, if_pos h]
theorem ev_i30 : ixN 3 0 = some 0 := rfl
theorem ev_i31 : ixN 3 1 = some 1 := rfl
theorem ev_i32 : ixN 3 2 = some 2 := rfl
theorem ev_pk1 {a : D} : pickG 1 0 [] [0] [a] [] = [a] := rfl
theorem ev_pk2 {a b : D} : pickG 2 0 [] [0, 1] [a, b] [] = [a, b] := rfl
theorem ev_pk3 {a b c : D} : pickG 3 0 [] [0, 1, 2] [a, b, c] [] = [a, b, c] := rfl
theorem ev_pk4 {a b c e : D} : pickG 4 0 [] [0, 1, 2, 3] [a, b, c, e] [] = [a, b, c, e] := rfl
theorem ev_pkw1 {a : D} : pickG 0 1 [] [0] [] [a] = [a] := rfl
theorem ev_pkw2 {a b : D} : pickG 0 2 [] [1, 0] [] [a, b] = [b, a] := rfl
theorem ev_pkv2 {a b : D} : pickG 0 2 [] [0, 1] [] [a, b] = [a, b] := rfl
theorem ev_isI {i : Int} : isD (.int i) .non = some (.bl false) := rfl
theorem ev_isN : isD .non .non = some (.bl true) := rfl
theorem ev_isB {b c : Bool} : isD (.bl b) (.bl c) = some (.bl (decide (b = c))) := rfl
theorem ev_inI {i : Int} : isNotD (.int i) .non = some (.bl true) := rfl
theorem ev_inN : isNotD .non .non = some (.bl false) := rfl
theorem ev_inB {b c : Bool} : isNotD (.bl b) (.bl c) = some (.bl (!decide (b = c))) := rfl
theorem ev_listT : listN [.tup ds] = some ds := rfl
theorem ev_listL : listN [.lst ds] = some ds := rfl
theorem ev_tupT : tupleD [.tup ds] = some (.tup ds) := rfl
theorem ev_tupL : tupleD [.lst ds] = some (.tup ds) := rfl
/-! ### loops -/
theorem forL_run {I : Nat → List Sl → Prop} : ∀ (ds : List D) (m : Nat) (s : List Sl), I m s → (∀ (j : Nat) (d : D) (s : List Sl), ds[j]? = some d → I (m + j) s → ∃ s1 s2, a d s = some s1 ∧ (G1 s1 = .nx s2 ∨ G1 s1 = .ct s2) ∧ I (m + j + 1) s2) → ∃ s', forL a G1 ds s = .nx s' ∧ I (m + ds.length) s'
  | [], m, s, h0, _ => ⟨s, rfl, h0⟩
  | d :: ds, m, s, h0, h => by
    obtain ⟨s1, s2, e1, e2, h2⟩ := h 0 d s rfl h0
    obtain ⟨s', e3, h3⟩ := forL_run (I := I) ds (m + 1) s2 h2 fun j d s e i => by
      have := h (j + 1) d s e (by rw [← Nat.add_assoc, Nat.add_right_comm]; exact i)
      rwa [← Nat.add_assoc, Nat.add_right_comm m j 1] at this
    refine ⟨s', ?_, by rw [List.length_cons, Nat.add_comm ds.length 1, ← Nat.add_assoc]; exact h3⟩
    unfold forL
    rw [e1]
    rcases e2 with e2 | e2
    · dsimp only
      rw [e2]
      exact e3
    · dsimp only
      rw [e2]
      exact e3
/-- a comprehension without a test, each turn with its own outcome -/
theorem compL_run {vs : List Nat} {I : Nat → List Sl → Prop} {Y : Nat → D → Prop} : ∀ (ds : List D) (m : Nat) (s : List Sl), I m s → (∀ (j : Nat) (d : D) (s : List Sl), ds[j]? = some d → I (m + j) s → ∃ s1 s2 s3 y, a d (wipeS s vs) = some s1 ∧ u s1 = .ok true s2 ∧ f s2 = .ok y s3 ∧ Y (m + j) y ∧ I (m + j + 1) s3) →
    ∃ ys s', compL vs a u f ds s = .ok ys s' ∧ ys.length = ds.length ∧ (∀ (j : Nat) (y : D), ys[j]? = some y → Y (m + j) y) ∧ I (m + ds.length) s'
  | [], m, s, h0, _ => ⟨[], s, rfl, rfl, fun j y e => by simp at e, h0⟩
  | d :: ds, m, s, h0, h => by
    obtain ⟨s1, s2, s3, y, e1, e2, e3, hy, h2⟩ := h 0 d s rfl h0
    obtain ⟨ys, s', e4, hl, hY, h3⟩ := compL_run (I := I) (Y := Y) ds (m + 1) s3 h2 fun j d s e i => by
      have := h (j + 1) d s e (by rw [← Nat.add_assoc, Nat.add_right_comm]; exact i)
      rwa [← Nat.add_assoc, Nat.add_right_comm m j 1] at this
    refine ⟨y :: ys, s', ?_, by rw [List.length_cons, List.length_cons, hl], fun j z e => ?_, by rw [List.length_cons, Nat.add_comm ds.length 1, ← Nat.add_assoc]; exact h3⟩
    · rw [ev_compL1, e1]
      dsimp only
      rw [e2]
      dsimp only
      rw [e3]
      dsimp only
      rw [e4]
    · cases j with
      | zero => cases e; exact hy
      | succ j =>
        have := hY j z e
        rwa [Nat.add_right_comm, Nat.add_assoc] at this
theorem rngD_length {a b : Int} : (rngD a b).length = (b - a).toNat := by
  unfold rngD
  rw [List.length_map, List.length_range]
theorem rngD_get {a b : Int} {j : Nat} {d : D} (h : (rngD a b)[j]? = some d) : d = .int (a + j) := by
  unfold rngD at h
  rw [List.getElem?_map] at h
  cases e : (List.range (b - a).toNat)[j]? with
  | none => rw [e] at h; cases h
  | some i =>
    rw [e] at h
    cases h
    obtain ⟨hi, hj⟩ := List.getElem?_eq_some_iff.mp e
    rw [List.getElem_range] at hj
    rw [hj]
end
end Fx

set_option Elab.async false
set_option linter.all false
set_option maxRecDepth 100000
namespace Fx
open PySem L2 PyProof.Rows
/-! ### equality of lists of ints -/
theorem toPyL_ints : ∀ ns : List Int, toPyL (ns.map D.int) = some (ns.map PyData.int)
  | [] => rfl
  | n :: ns => by
    rw [List.map_cons, List.map_cons]
    unfold toPyL
    rw [toPyL_ints ns]
    rfl
theorem canLay_ints : ∀ ns : List Int, PyData.canLayAll0 (ns.map PyData.int) = true
  | [] => by simp only [List.map_nil, PyData.canLayAll0]
  | n :: ns => by
    rw [List.map_cons]
    simp only [PyData.canLayAll0, PyData.canLay0, canLay_ints ns, Bool.true_and]
theorem depth_ints : ∀ ns : List Int, PyData.depthAll (ns.map PyData.int) = 0
  | [] => by simp only [List.map_nil, PyData.depthAll]
  | n :: ns => by
    rw [List.map_cons]
    simp only [PyData.depthAll, PyData.depth, depth_ints ns, Nat.max_self]
theorem eqv_ints : ∀ ns ms : List Int, PyData.eqvAll (ns.map PyData.int) (ms.map PyData.int) = decide (ns = ms)
  | [], [] => by simp [PyData.eqvAll]
  | [], m :: ms => by simp [PyData.eqvAll]
  | n :: ns, [] => by simp [PyData.eqvAll]
  | n :: ns, m :: ms => by
    rw [List.map_cons, List.map_cons]
    unfold PyData.eqvAll PyData.eqv
    rw [eqv_ints ns ms]
    by_cases h1 : n = m
    · by_cases h2 : ns = ms
      · simp [h1, h2]
      · simp [h1, h2]
    · simp [h1]
theorem shaped_ints (ns : List Int) : SeqAt.shaped (.list (ns.map PyData.int)) = true := by
  unfold SeqAt.shaped PyData.canLay0
  rw [canLay_ints, Bool.true_and]
  refine decide_eq_true ?_
  unfold PyData.depth
  rw [depth_ints]
  decide
theorem eq_ints (ns ms : List Int) : eqD (.lst (ns.map D.int)) (.lst (ms.map D.int)) = some (.bl (decide (ns = ms))) := by
  show eqG _ _ = _
  unfold eqG toPy
  rw [toPyL_ints, toPyL_ints]
  show (if SeqAt.shaped _ = true ∧ SeqAt.shaped _ = true then _ else _) = _
  rw [if_pos ⟨shaped_ints ns, shaped_ints ms⟩]
  unfold PyData.eqv
  rw [eqv_ints]
theorem ne_ints (ns ms : List Int) : neD (.lst (ns.map D.int)) (.lst (ms.map D.int)) = some (.bl (!decide (ns = ms))) := by
  show neG _ _ = _
  unfold neG toPy
  rw [toPyL_ints, toPyL_ints]
  show (if SeqAt.shaped _ = true ∧ SeqAt.shaped _ = true then _ else _) = _
  rw [if_pos ⟨shaped_ints ns, shaped_ints ms⟩]
  unfold PyData.eqv
  rw [eqv_ints]
/-! ### what repr can show -/
mutual
def shOk : D → Bool
  | .non => true
  | .bl _ => true
  | .int i => decide (i.natAbs.log2 < 1920)
  | .tup xs => shOkL xs
  | .lst xs => shOkL xs
  | _ => false
def shOkL : List D → Bool
  | [] => true
  | x :: xs => shOk x && shOkL xs
end
mutual
def shSz : D → Nat
  | .tup xs => shSzL xs + 3
  | .lst xs => shSzL xs + 3
  | _ => 1921
def shSzL : List D → Nat
  | [] => 0
  | x :: xs => shSz x + 2 + shSzL xs
end
mutual
def shDp : D → Nat
  | .tup xs => shDpL xs + 1
  | .lst xs => shDpL xs + 1
  | _ => 0
def shDpL : List D → Nat
  | [] => 0
  | x :: xs => max (shDp x) (shDpL xs)
end
mutual
theorem sh_py : ∀ d : D, shOk d = true → ∃ p, toPy d = some p ∧ p.showable = true ∧ p.hasDict = false ∧ p.depth = shDp d ∧ p.shown.length ≤ shSz d
  | .non, _ => ⟨.none, rfl, by simp only [PyData.showable], by simp only [PyData.hasDict], by simp only [PyData.depth, shDp], by simp only [PyData.shown, shSz]; decide⟩
  | .bl b, _ => ⟨.bool b, rfl, by simp only [PyData.showable], by simp only [PyData.hasDict], by simp only [PyData.depth, shDp], by
    simp only [PyData.shown, shSz]
    cases b <;> decide⟩
  | .int i, h => ⟨.int i, rfl, by
    simp only [PyData.showable]
    exact h, by simp only [PyData.hasDict], by simp only [PyData.depth, shDp], by
    simp only [PyData.shown, shSz]
    exact int_text_len_1921 (of_decide_eq_true h)⟩
  | .tup xs, h => by
    unfold shOk at h
    obtain ⟨ps, e, h1, h2, h3, h4, h5⟩ := sh_pyL xs h
    refine ⟨.tuple ps, by unfold toPy; rw [e]; rfl, by simp only [PyData.showable]; exact h1, by simp only [PyData.hasDict]; exact h2, by simp only [PyData.depth, shDp]; rw [h3], ?_⟩
    simp only [PyData.shown, shSz]
    refine Nat.le_trans (PySem.tupleText_len_le _) ?_
    omega
  | .lst xs, h => by
    unfold shOk at h
    obtain ⟨ps, e, h1, h2, h3, h4, h5⟩ := sh_pyL xs h
    refine ⟨.list ps, by unfold toPy; rw [e]; rfl, by simp only [PyData.showable]; exact h1, by simp only [PyData.hasDict]; exact h2, by simp only [PyData.depth, shDp]; rw [h3], ?_⟩
    simp only [PyData.shown, shSz]
    refine Nat.le_trans (PySem.listText_len_le _) ?_
    omega
  | .str _, h => by simp [shOk] at h
  | .ref _, h => by simp [shOk] at h
  | .ty _, h => by simp [shOk] at h
  | .fz _, h => by simp [shOk] at h
  | .ins _ _, h => by simp [shOk] at h
theorem sh_pyL : ∀ ds : List D, shOkL ds = true → ∃ ps, toPyL ds = some ps ∧ PyData.showableAll ps = true ∧ PyData.hasDictAll ps = false ∧ PyData.depthAll ps = shDpL ds ∧ ps.length = ds.length ∧ ((PyData.shownAll ps).map (·.length)).sum + 2 * (PyData.shownAll ps).length ≤ shSzL ds
  | [], _ => ⟨[], rfl, by simp only [PyData.showableAll], by simp only [PyData.hasDictAll], by simp only [PyData.depthAll, shDpL], rfl, by simp only [PyData.shownAll, shSzL, List.map_nil, List.sum_nil, List.length_nil]; omega⟩
  | d :: ds, h => by
    unfold shOkL at h
    rw [Bool.and_eq_true] at h
    obtain ⟨p, e, a1, a2, a3, a4⟩ := sh_py d h.1
    obtain ⟨ps, e2, b1, b2, b3, b4, b5⟩ := sh_pyL ds h.2
    refine ⟨p :: ps, by unfold toPyL; rw [e, e2], by simp only [PyData.showableAll, a1, b1, Bool.and_self], by simp only [PyData.hasDictAll, a2, b2, Bool.or_self], by simp only [PyData.depthAll, shDpL, a3, b3], by rw [List.length_cons, List.length_cons, b4], ?_⟩
    simp only [PyData.shownAll, shSzL, List.map_cons, List.sum_cons, List.length_cons]
    omega
end
theorem repr_of {d : D} (h : shOk d = true) (h2 : shDp d < 60) (h3 : shSz d ≤ 16777216) : ∃ z, reprD [d] = some (.str z) := by
  obtain ⟨p, e, a1, a2, a3, a4⟩ := sh_py d h
  refine ⟨p.shown, ?_⟩
  unfold reprD
  dsimp only
  rw [e]
  dsimp only
  rw [if_pos ⟨a1, a2, by rw [a3]; exact h2, Nat.le_trans a4 (by rw [sizeLine_eq]; exact h3)⟩]
end Fx

set_option Elab.async false
set_option linter.all false
set_option maxRecDepth 100000
set_option maxHeartbeats 4000000
namespace Fx
open PySem L2 PyProof.Rows
/-! ### the text -/
def topS (i : Nat) : Stmt := PySem.Challenge.pw_saveagain_k06_whole_rounding_to_points.main.body.getD i (.Pass ⟨0, 0, 0, 0⟩)
abbrev s__law_pen : Stmt := topS 22
abbrev s__law_draw : Stmt := topS 23
abbrev s__law_pick : Stmt := topS 24
abbrev s__law_grid : Stmt := topS 25
abbrev s_is_row : Stmt := topS 7
abbrev s_is_integer : Stmt := topS 5
abbrev s_is_within : Stmt := topS 6
abbrev s_is_rule : Stmt := topS 11
abbrev s_is_grid : Stmt := topS 12
abbrev s__law_near : Stmt := topS 27
abbrev s__law_mark : Stmt := topS 26
abbrev s_need_grid : Stmt := topS 13
abbrev s_need_number : Stmt := topS 14
abbrev s_mark_in : Stmt := topS 15
abbrev s_mark : Stmt := topS 17
abbrev s_point_in : Stmt := topS 16
abbrev s_nearest : Stmt := topS 19
abbrev s_point : Stmt := topS 18
abbrev s_is_point : Stmt := topS 20
abbrev s_law : Stmt := topS 28
theorem sc__law_pen : FnScope ["script"] ["script"] (defScope s__law_pen) := ⟨rfl, rfl, rfl, by decide +kernel, rfl, by decide +kernel, by decide +kernel⟩
theorem sc__law_draw : FnScope ["pen", "many", "digit", "taken", "cell", "great", "mixed"] ["pen", "many"] (defScope s__law_draw) := ⟨rfl, rfl, rfl, by decide +kernel, rfl, by decide +kernel, by decide +kernel⟩
theorem sc__law_pick : FnScope ["pen", "some"] ["pen", "some"] (defScope s__law_pick) := ⟨rfl, rfl, rfl, by decide +kernel, rfl, by decide +kernel, by decide +kernel⟩
theorem sc__law_grid : FnScope ["pen", "step"] ["pen"] (defScope s__law_grid) := ⟨rfl, rfl, rfl, by decide +kernel, rfl, by decide +kernel, by decide +kernel⟩
theorem sc_is_row : FnScope ["value", "most"] ["value", "most"] (defScope s_is_row) := ⟨rfl, rfl, rfl, by decide +kernel, rfl, by decide +kernel, by decide +kernel⟩
theorem sc_is_integer : FnScope ["value"] ["value"] (defScope s_is_integer) := ⟨rfl, rfl, rfl, by decide +kernel, rfl, by decide +kernel, by decide +kernel⟩
theorem sc_is_within : FnScope ["value", "least", "most"] ["value", "least", "most"] (defScope s_is_within) := ⟨rfl, rfl, rfl, by decide +kernel, rfl, by decide +kernel, by decide +kernel⟩
theorem sc_is_rule : FnScope ["value"] ["value"] (defScope s_is_rule) := ⟨rfl, rfl, rfl, by decide +kernel, rfl, by decide +kernel, by decide +kernel⟩
theorem sc_is_grid : FnScope ["value"] ["value"] (defScope s_is_grid) := ⟨rfl, rfl, rfl, by decide +kernel, rfl, by decide +kernel, by decide +kernel⟩
theorem sc__law_near : FnScope ["pen", "grid", "step", "offset", "rule", "place"] ["pen", "grid"] (defScope s__law_near) := ⟨rfl, rfl, rfl, by decide +kernel, rfl, by decide +kernel, by decide +kernel⟩
theorem sc__law_mark : FnScope ["grid", "number", "step", "offset", "rule", "low", "near", "least", "some", "place", "far"] ["grid", "number"] (defScope s__law_mark) := ⟨rfl, rfl, rfl, by decide +kernel, rfl, by decide +kernel, by decide +kernel⟩
theorem sc_need_grid : FnScope ["value"] ["value"] (defScope s_need_grid) := ⟨rfl, rfl, rfl, by decide +kernel, rfl, by decide +kernel, by decide +kernel⟩
theorem sc_need_number : FnScope ["value", "part"] ["value", "part"] (defScope s_need_number) := ⟨rfl, rfl, rfl, by decide +kernel, rfl, by decide +kernel, by decide +kernel⟩
theorem sc_mark_in : FnScope ["grid", "number", "step", "offset", "rule", "low", "over"] ["grid", "number"] (defScope s_mark_in) := ⟨rfl, rfl, rfl, by decide +kernel, rfl, by decide +kernel, by decide +kernel⟩
theorem sc_mark : FnScope ["grid", "number", "told"] ["grid", "number"] (defScope s_mark) := ⟨rfl, rfl, rfl, by decide +kernel, rfl, by decide +kernel, by decide +kernel⟩
theorem sc_point_in : FnScope ["grid", "place"] ["grid", "place"] (defScope s_point_in) := ⟨rfl, rfl, rfl, by decide +kernel, rfl, by decide +kernel, by decide +kernel⟩
theorem sc_nearest : FnScope ["grid", "number", "told"] ["grid", "number"] (defScope s_nearest) := ⟨rfl, rfl, rfl, by decide +kernel, rfl, by decide +kernel, by decide +kernel⟩
theorem sc_point : FnScope ["grid", "place", "told"] ["grid", "place"] (defScope s_point) := ⟨rfl, rfl, rfl, by decide +kernel, rfl, by decide +kernel, by decide +kernel⟩
theorem sc_is_point : FnScope ["grid", "number", "told"] ["grid", "number"] (defScope s_is_point) := ⟨rfl, rfl, rfl, by decide +kernel, rfl, by decide +kernel, by decide +kernel⟩
theorem sc_law : FnScope ["script", "pen", "turn", "grid", "ahead", "step", "offset", "rule", "numbers", "number", "place", "there", "told", "tie", "lap"] ["script"] (defScope s_law) := ⟨rfl, rfl, rfl, by decide +kernel, rfl, by decide +kernel, by decide +kernel⟩
/-! ### what each def does -/
def g__law_pen : G := (retNG (lstN (consF (lstF' (opnN listN (consF (slF (nameF 0) noPartF (partF (cF (.int 63)))) nilF))) (consF (cF (.int 0)) (consF (cF (.int 0)) nilF)))))
def F__law_pen : List D → FR := bodyF 1 false g__law_pen
def g__law_draw : G := (seqG (ifG (tstF (op2F gtD (ixOwnF 0 (cF (.int 2))) (cF (.int 0))))
    (seqG (asgG (op2F modD (opnF intD (consF (ixOwnF 0 (cF (.int 2))) nilF)) (nameF 1)) (setA 2))
    (seqG (setIxG 0 (cF (.int 2)) (op2F fdivD (opnF intD (consF (ixOwnF 0 (cF (.int 2))) nilF)) (nameF 1)))
    (retG (nameF 2))))
    nextG)
    (seqG (asgG (ixOwnF 0 (cF (.int 1))) (setA 3))
    (seqG (setIxG 0 (cF (.int 1)) (op2F addD (nameF 3) (cF (.int 1))))
    (seqG (asgG (op2F addD (op2F mulD (cF (.int 73609)) (nameF 3)) (cF (.int 4421))) (setA 4))
    (seqG (ifG (tstF (op2F neD (ixOwnF 0 (cF (.int 0))) (lstF nilF)))
    (asgG (op2F ixD (ixOwnF 0 (cF (.int 0))) (op2F modD (opnF intD (consF (nameF 3) nilF)) (opnF lenD (consF (ixOwnF 0 (cF (.int 0))) nilF)))) (setA 4))
    nextG)
    (seqG (ifG (andT (tstF (op2F ltD (nameF 3) (opnF lenD (consF (ixOwnF 0 (cF (.int 0))) nilF)))) (tstF (op2F geD (opnF absD (consF (nameF 4) nilF)) (op2F powD (cF (.int 10)) (cF (.int 18))))))
    (seqG (asgG (op2F addD (op2F mulD (cF (.int 2)) (op2F subD (opnF absD (consF (nameF 4) nilF)) (op2F powD (cF (.int 10)) (cF (.int 18))))) (opnF intD (consF (op2F ltD (nameF 4) (cF (.int 0))) nilF))) (setA 5))
    (seqG (setIxG 0 (cF (.int 2)) (op2F fdivD (opnF intD (consF (nameF 5) nilF)) (nameF 1)))
    (retG (op2F modD (opnF intD (consF (nameF 5) nilF)) (nameF 1)))))
    nextG)
    (seqG (asgG (op2F modD (opnF intD (consF (op2F powD (op2F addD (op2F addD (op2F modD (opnF intD (consF (nameF 4) nilF)) (cF (.int 2147483563))) (op2F mulD (cF (.int 73609)) (nameF 3))) (cF (.int 4421))) (cF (.int 5))) nilF)) (cF (.int 2147483629))) (setA 6))
    (seqG (asgG (op2F modD (opnF intD (consF (op2F powD (op2F addD (op2F addD (op2F mulD (nameF 6) (op2F addD (op2F mulD (cF (.int 2)) (nameF 3)) (cF (.int 683)))) (op2F mulD (op2F mulD (cF (.int 73609)) (nameF 3)) (nameF 3))) (cF (.int 4421))) (cF (.int 3))) nilF)) (cF (.int 2147483587))) (setA 6))
    (retG (op2F modD (opnF intD (consF (op2F fdivD (nameF 6) (cF (.int 32))) nilF)) (nameF 1)))))))))))
def F__law_draw : List D → FR := bodyF 7 true g__law_draw
def g__law_pick : G := (retG (op2F ixD (nameF 1) (callIoF F__law_draw 2 0 (consF (opnF lenD (consF (nameF 1) nilF)) nilF))))
def F__law_pick : List D → FR := bodyF 2 true g__law_pick
def g__law_grid : G := (seqG (asgG (callIoF F__law_pick 2 0 (consF (lstF (consF (cF (.int 1)) (consF (cF (.int 2)) (consF (cF (.int 2)) (consF (cF (.int 3)) (consF (cF (.int 4)) (consF (cF (.int 4)) (consF (cF (.int 5)) (consF (cF (.int 6)) (consF (cF (.int 999)) (consF (op2F addD (cF (.int 1)) (callIoF F__law_draw 2 0 (consF (cF (.int 999)) nilF))) nilF))))))))))) nilF)) (setA 1))
    (retG (tupF (consF (nameF 1) (consF (callIoF F__law_pick 2 0 (consF (lstF (consF (cF (.int 0)) (consF (op2F subD (nameF 1) (cF (.int 1))) (consF (callIoF F__law_draw 2 0 (consF (nameF 1) nilF)) nilF)))) nilF)) (consF (callIoF F__law_pick 2 0 (consF (lstF (consF (cF (.str "floor")) (consF (cF (.str "ceil")) (consF (cF (.str "up")) (consF (cF (.str "down")) (consF (cF (.str "even")) (consF (cF (.str "odd")) (consF (cF (.str "even")) (consF (cF (.str "odd")) nilF))))))))) nilF)) nilF))))))
def F__law_grid : List D → FR := bodyF 2 true g__law_grid
def g_is_row : G := (retG (andF (opnF isiD (consF (nameF 0) (consF (tupF (consF (cF (.ty "list")) (consF (cF (.ty "tuple")) nilF))) nilF))) (op2F leD (opnF lenD (consF (nameF 0) nilF)) (nameF 1))))
def F_is_row : List D → FR := bodyF 2 false g_is_row
def g_is_integer : G := (retG (andF (opnF isiD (consF (nameF 0) (consF (cF (.ty "int")) nilF))) (notF (opnF isiD (consF (nameF 0) (consF (cF (.ty "bool")) nilF))))))
def F_is_integer : List D → FR := bodyF 1 false g_is_integer
def g_is_within : G := (seqG (ifG (notT (tstF (callF F_is_integer 1 (pickG 1 0 [] [0]) (consF (nameF 0) nilF) nilF)))
    (retG (cF (.bl false)))
    nextG)
    (retG (andF (orF (op2F isD (nameF 1) (cF .non)) (op2F geD (nameF 0) (nameF 1))) (orF (op2F isD (nameF 2) (cF .non)) (op2F leD (nameF 0) (nameF 2))))))
def F_is_within : List D → FR := bodyF 3 false g_is_within
def g_is_rule : G := (retG (andF (opnF isiD (consF (nameF 0) (consF (cF (.ty "str")) nilF))) (op2F (inD false) (nameF 0) (cF (.tup [.str "floor", .str "ceil", .str "up", .str "down", .str "even", .str "odd"])))))
def F_is_rule : List D → FR := bodyF 1 false g_is_rule
def g_is_grid : G := (seqG (ifG (orT (notT (tstF (callF F_is_row 2 (pickG 2 0 [] [0, 1]) (consF (nameF 0) (consF (cF (.int 3)) nilF)) nilF))) (orT (tstF (op2F neD (opnF lenD (consF (nameF 0) nilF)) (cF (.int 3)))) (notT (tstF (callF F_is_within 3 (pickG 3 0 [] [0, 1, 2]) (consF (op2F ixD (nameF 0) (cF (.int 0))) (consF (cF (.int 1)) (consF (cF (.int 999)) nilF))) nilF)))))
    (retG (cF (.bl false)))
    nextG)
    (retG (andF (callF F_is_within 3 (pickG 3 0 [] [0, 1, 2]) (consF (op2F ixD (nameF 0) (cF (.int 1))) (consF (cF (.int 0)) (consF (op2F subD (op2F ixD (nameF 0) (cF (.int 0))) (cF (.int 1))) nilF))) nilF) (callF F_is_rule 1 (pickG 1 0 [] [0]) (consF (op2F ixD (nameF 0) (cF (.int 2))) nilF) nilF))))
def F_is_grid : List D → FR := bodyF 1 false g_is_grid
def g__law_near : G := (seqG (asgG (nameF 1) (seqA 3 (consA (setA 2) (consA (setA 3) (consA (setA 4) nilA)))))
    (seqG (asgG (callIoF F__law_pick 2 0 (consF (lstF (consF (cF (.int 0)) (consF (cF (.int 1)) (consF (op1F negD (cF (.int 1))) (consF (op2F subD (callIoF F__law_draw 2 0 (consF (cF (.int 40)) nilF)) (cF (.int 20))) (consF (op2F addD (op2F powD (cF (.int 10)) (cF (.int 29))) (callIoF F__law_draw 2 0 (consF (op2F powD (cF (.int 10)) (cF (.int 9))) nilF))) (consF (op2F subD (callIoF F__law_draw 2 0 (consF (op2F powD (cF (.int 10)) (cF (.int 9))) nilF)) (op2F powD (cF (.int 10)) (cF (.int 30)))) nilF))))))) nilF)) (setA 5))
    (retG (op2F addD (op2F addD (nameF 3) (op2F mulD (nameF 2) (nameF 5))) (callIoF F__law_pick 2 0 (consF (lstF (consF (cF (.int 0)) (consF (cF (.int 1)) (consF (op1F negD (cF (.int 1))) (consF (op2F fdivD (nameF 2) (cF (.int 2))) (consF (op2F addD (op2F fdivD (nameF 2) (cF (.int 2))) (cF (.int 1))) (consF (op2F subD (nameF 2) (cF (.int 1))) (consF (callIoF F__law_draw 2 0 (consF (nameF 2) nilF)) nilF)))))))) nilF))))))
def F__law_near : List D → FR := bodyF 6 true g__law_near
def g__law_mark : G := (seqG (asgG (nameF 0) (seqA 3 (consA (setA 2) (consA (setA 3) (consA (setA 4) nilA)))))
    (seqG (asgG (op2F fdivD (op2F subD (nameF 1) (nameF 3)) (nameF 2)) (setA 5))
    (seqG (setNG 6 (compN (rngWF (op2F subD (nameF 5) (cF (.int 1))) (op2F addD (nameF 5) (cF (.int 3)))) [9] (setA 9) yesT (tupF (consF (opnF absD (consF (op2F subD (op2F subD (nameF 1) (nameF 3)) (op2F mulD (nameF 2) (nameF 9))) nilF)) (consF (nameF 9) nilF)))))
    (seqG (ifG (tstF (op2F eqD (nameF 4) (cF (.str "floor"))))
    (retG (opnF maxD (consF (lstF' (compN (iterF (nameF 6)) [10, 9] (seqA 2 (consA (setA 10) (consA (setA 9) nilA))) (tstF (op2F leD (op2F addD (nameF 3) (op2F mulD (nameF 2) (nameF 9))) (nameF 1))) (nameF 9))) nilF)))
    nextG)
    (seqG (ifG (tstF (op2F eqD (nameF 4) (cF (.str "ceil"))))
    (retG (opnF minD (consF (lstF' (compN (iterF (nameF 6)) [10, 9] (seqA 2 (consA (setA 10) (consA (setA 9) nilA))) (tstF (op2F geD (op2F addD (nameF 3) (op2F mulD (nameF 2) (nameF 9))) (nameF 1))) (nameF 9))) nilF)))
    nextG)
    (seqG (asgG (op2F ixD (opnF minTD (consF (nameF 6) nilF)) (cF (.int 0))) (setA 7))
    (seqG (setNG 8 (compN (iterF (nameF 6)) [10, 9] (seqA 2 (consA (setA 10) (consA (setA 9) nilA))) (tstF (op2F eqD (nameF 10) (nameF 7))) (nameF 9)))
    (seqG (ifG (tstF (op2F eqD (opnF lenD (consF (nameF 8) nilF)) (cF (.int 1))))
    (retG (op2F ixD (nameF 8) (cF (.int 0))))
    nextG)
    (seqG (ifG (tstF (op2F (inD false) (nameF 4) (tupF (consF (cF (.str "up")) (consF (cF (.str "down")) nilF)))))
    (retG (ifF (tstF (op2F eqD (nameF 4) (cF (.str "up")))) (opnF maxD (consF (nameF 8) nilF)) (opnF minD (consF (nameF 8) nilF))))
    nextG)
    (retG (op2F ixD (lstF' (compN (iterF (nameF 8)) [9] (setA 9) (tstF (op2F eqD (op2F modD (opnF intD (consF (nameF 9) nilF)) (cF (.int 2))) (opnF intD (consF (op2F eqD (nameF 4) (cF (.str "odd"))) nilF)))) (nameF 9))) (cF (.int 0)))))))))))))
def F__law_mark : List D → FR := bodyF 11 false g__law_mark
def g_need_grid : G := (seqG (ifG (notT (tstF (callF F_is_grid 1 (pickG 1 0 [] [0]) (consF (nameF 0) nilF) nilF)))
    noG
    nextG)
    (retG (opnF tupleD (consF (nameF 0) nilF))))
def F_need_grid : List D → FR := bodyF 1 false g_need_grid
def g_need_number : G := (ifG (notT (tstF (callF F_is_integer 1 (pickG 1 0 [] [0]) (consF (nameF 0) nilF) nilF)))
    noG
    nextG)
def F_need_number : List D → FR := bodyF 2 false g_need_number
def g_mark_in : G := (seqG (asgG (nameF 0) (seqA 3 (consA (setA 2) (consA (setA 3) (consA (setA 4) nilA)))))
    (seqG (asgG (opnF divmodD (consF (op2F subD (nameF 1) (nameF 3)) (consF (nameF 2) nilF))) (seqA 2 (consA (setA 5) (consA (setA 6) nilA))))
    (seqG (ifG (orT (tstF (op2F eqD (nameF 6) (cF (.int 0)))) (tstF (op2F eqD (nameF 4) (cF (.str "floor")))))
    (retG (nameF 5))
    nextG)
    (seqG (ifG (tstF (op2F eqD (nameF 4) (cF (.str "ceil"))))
    (retG (op2F addD (nameF 5) (cF (.int 1))))
    nextG)
    (seqG (ifG (tstF (op2F neD (op2F mulD (cF (.int 2)) (nameF 6)) (nameF 2)))
    (retG (op2F addD (nameF 5) (opnF intD (consF (op2F gtD (op2F mulD (cF (.int 2)) (nameF 6)) (nameF 2)) nilF))))
    nextG)
    (seqG (ifG (tstF (op2F eqD (nameF 4) (cF (.str "up"))))
    (retG (op2F addD (nameF 5) (cF (.int 1))))
    nextG)
    (seqG (ifG (tstF (op2F eqD (nameF 4) (cF (.str "down"))))
    (retG (nameF 5))
    nextG)
    (retG (ifF (tstF (op2F eqD (nameF 4) (cF (.str "even")))) (op2F addD (nameF 5) (op2F modD (nameF 5) (cF (.int 2)))) (op2F subD (op2F addD (nameF 5) (cF (.int 1))) (op2F modD (nameF 5) (cF (.int 2)))))))))))))
def F_mark_in : List D → FR := bodyF 7 false g_mark_in
def g_mark : G := (seqG (asgG (callF F_need_grid 1 (pickG 1 0 [] [0]) (consF (nameF 0) nilF) nilF) (setA 2))
    (seqG (dropG (callF F_need_number 2 (pickG 2 0 [] [0, 1]) (consF (nameF 1) (consF (cF (.str "number")) nilF)) nilF))
    (retG (callF F_mark_in 2 (pickG 2 0 [] [0, 1]) (consF (nameF 2) (consF (nameF 1) nilF)) nilF))))
def F_mark : List D → FR := bodyF 3 false g_mark
def g_point_in : G := (retG (op2F addD (op2F ixD (nameF 0) (cF (.int 1))) (op2F mulD (op2F ixD (nameF 0) (cF (.int 0))) (nameF 1))))
def F_point_in : List D → FR := bodyF 2 false g_point_in
def g_nearest : G := (seqG (asgG (callF F_need_grid 1 (pickG 1 0 [] [0]) (consF (nameF 0) nilF) nilF) (setA 2))
    (seqG (dropG (callF F_need_number 2 (pickG 2 0 [] [0, 1]) (consF (nameF 1) (consF (cF (.str "number")) nilF)) nilF))
    (retG (callF F_point_in 2 (pickG 2 0 [] [0, 1]) (consF (nameF 2) (consF (callF F_mark_in 2 (pickG 2 0 [] [0, 1]) (consF (nameF 2) (consF (nameF 1) nilF)) nilF) nilF)) nilF))))
def F_nearest : List D → FR := bodyF 3 false g_nearest
def g_point : G := (seqG (asgG (callF F_need_grid 1 (pickG 1 0 [] [0]) (consF (nameF 0) nilF) nilF) (setA 2))
    (seqG (dropG (callF F_need_number 2 (pickG 2 0 [] [0, 1]) (consF (nameF 1) (consF (cF (.str "place")) nilF)) nilF))
    (retG (callF F_point_in 2 (pickG 2 0 [] [0, 1]) (consF (nameF 2) (consF (nameF 1) nilF)) nilF))))
def F_point : List D → FR := bodyF 3 false g_point
def g_is_point : G := (seqG (asgG (callF F_need_grid 1 (pickG 1 0 [] [0]) (consF (nameF 0) nilF) nilF) (setA 2))
    (seqG (dropG (callF F_need_number 2 (pickG 2 0 [] [0, 1]) (consF (nameF 1) (consF (cF (.str "number")) nilF)) nilF))
    (retG (op2F eqD (op2F modD (op2F subD (nameF 1) (op2F ixD (nameF 2) (cF (.int 1)))) (op2F ixD (nameF 2) (cF (.int 0)))) (cF (.int 0))))))
def F_is_point : List D → FR := bodyF 3 false g_is_point
def g_law_b1 : G := (seqG (asgG (callF F__law_mark 2 (pickG 2 0 [] [0, 1]) (consF (nameF 3) (consF (nameF 9) nilF)) nilF) (setA 10))
    (seqG (asgG (op2F addD (nameF 6) (op2F mulD (nameF 5) (nameF 10))) (setA 11))
    (seqG (asgG (lstF (consF (callF F_mark 2 (pickG 2 0 [] [0, 1]) (consF (nameF 3) (consF (nameF 9) nilF)) nilF) (consF (callF F_nearest 2 (pickG 2 0 [] [0, 1]) (consF (lstF' (opnN listN (consF (nameF 3) nilF))) (consF (nameF 9) nilF)) nilF) (consF (callF F_point 2 (pickG 2 0 [] [0, 1]) (consF (nameF 3) (consF (nameF 10) nilF)) nilF) (consF (callF F_mark 2 (pickG 0 2 [] [1, 0]) nilF (consF (nameF 9) (consF (nameF 3) nilF))) (consF (callF F_nearest 2 (pickG 0 2 [] [1, 0]) nilF (consF (nameF 9) (consF (nameF 3) nilF))) (consF (callF F_point 2 (pickG 0 2 [] [1, 0]) nilF (consF (nameF 10) (consF (nameF 3) nilF))) nilF))))))) (setA 12))
    (seqG (ifG (orT (tstF (op2F neD (opnF reprD (consF (nameF 12) nilF)) (opnF reprD (consF (lstF (consF (nameF 10) (consF (nameF 11) (consF (nameF 11) (consF (nameF 10) (consF (nameF 11) (consF (nameF 11) nilF))))))) nilF)))) (orT (tstF (op2F neD (callF F_nearest 2 (pickG 2 0 [] [0, 1]) (consF (nameF 3) (consF (nameF 11) nilF)) nilF) (nameF 11))) (tstF (op2F neD (callF F_mark 2 (pickG 2 0 [] [0, 1]) (consF (nameF 3) (consF (nameF 11) nilF)) nilF) (nameF 10)))))
    (retG (cF (.bl false)))
    nextG)
    (seqG (ifG (tstF (op2F neD (opnF reprD (consF (lstF (consF (callF F_is_point 2 (pickG 2 0 [] [0, 1]) (consF (nameF 3) (consF (nameF 11) nilF)) nilF) (consF (callF F_is_point 2 (pickG 0 2 [] [1, 0]) nilF (consF (nameF 9) (consF (nameF 3) nilF))) nilF))) nilF)) (opnF reprD (consF (lstF (consF (cF (.bl true)) (consF (op2F eqD (nameF 9) (nameF 11)) nilF))) nilF))))
    (retG (cF (.bl false)))
    nextG)
    (seqG (ifG (andT (tstF (op2F isNotD (nameF 4) (cF .non))) (tstF (op2F ltD (nameF 11) (nameF 4))))
    (retG (cF (.bl false)))
    nextG)
    (asgG (nameF 11) (setA 4))))))))
def g_law_b2 : G := (seqG (asgG (tupF (consF (callIoF F__law_grid 1 1 nilF) (consF (cF .non) nilF))) (seqA 2 (consA (setA 3) (consA (setA 4) nilA))))
    (seqG (asgG (nameF 3) (seqA 3 (consA (setA 5) (consA (setA 6) (consA (setA 7) nilA)))))
    (seqG (ifG (orT (tstF (op2F isNotD (callF F_is_grid 1 (pickG 1 0 [] [0]) (consF (nameF 3) nilF) nilF) (cF (.bl true)))) (tstF (op2F isNotD (callF F_is_grid 1 (pickG 0 1 [] [0]) nilF (consF (lstF' (opnN listN (consF (nameF 3) nilF))) nilF)) (cF (.bl true)))))
    (retG (cF (.bl false)))
    nextG)
    (seqG (asgG (lstF' (opnN sortedN (consF (lstF' (compN (rng1F (cF (.int 6))) [14] (setA 14) yesT (callIoF F__law_near 2 1 (consF (nameF 3) nilF)))) nilF))) (setA 8))
    (forG (iterF (nameF 8)) (setA 9) g_law_b1)))))
def g_law : G := (seqG (setNG 1 (callN F__law_pen 1 (pickG 1 0 [] [0]) (consF (nameF 0) nilF) nilF))
    (seqG (ifG (tstF (op2F neD (cF (.tup [.str "floor", .str "ceil", .str "up", .str "down", .str "even", .str "odd"])) (tupF (consF (cF (.str "floor")) (consF (cF (.str "ceil")) (consF (cF (.str "up")) (consF (cF (.str "down")) (consF (cF (.str "even")) (consF (cF (.str "odd")) nilF)))))))))
    (retG (cF (.bl false)))
    nextG)
    (seqG (forG (rng1F (cF (.int 9))) (setA 2) g_law_b2)
    (seqG (asgG (op2F addD (lstF' (compN (iterF (cF (.tup [.str "floor", .str "ceil", .str "up", .str "down", .str "even", .str "odd"]))) [7] (setA 7) yesT (callF F_nearest 2 (pickG 2 0 [] [0, 1]) (consF (tupF (consF (cF (.int 4)) (consF (cF (.int 1)) (consF (nameF 7) nilF)))) (consF (cF (.int 3)) nilF)) nilF))) (lstF' (compN (iterF (cF (.tup [.str "floor", .str "ceil", .str "up", .str "down", .str "even", .str "odd"]))) [7] (setA 7) yesT (callF F_nearest 2 (pickG 2 0 [] [0, 1]) (consF (tupF (consF (cF (.int 4)) (consF (cF (.int 1)) (consF (nameF 7) nilF)))) (consF (op1F negD (cF (.int 1))) nilF)) nilF)))) (setA 13))
    (retG (op2F eqD (nameF 13) (lstF (consF (cF (.int 1)) (consF (cF (.int 5)) (consF (cF (.int 5)) (consF (cF (.int 1)) (consF (cF (.int 1)) (consF (cF (.int 5)) (consF (op1F negD (cF (.int 3))) (consF (cF (.int 1)) (consF (cF (.int 1)) (consF (op1F negD (cF (.int 3))) (consF (cF (.int 1)) (consF (op1F negD (cF (.int 3))) nilF)))))))))))))))))))
def F_law : List D → FR := bodyF 15 false g_law
/-! ### what the text holds -/
structure Txt (K : PySem.W.Frag) (mg : Str → Option Value) : Prop where
  a__law_pen : FunAt K mg "_law_pen" s__law_pen
  a__law_draw : FunAt K mg "_law_draw" s__law_draw
  a__law_pick : FunAt K mg "_law_pick" s__law_pick
  a__law_grid : FunAt K mg "_law_grid" s__law_grid
  a_is_row : FunAt K mg "is_row" s_is_row
  a_is_integer : FunAt K mg "is_integer" s_is_integer
  a_is_within : FunAt K mg "is_within" s_is_within
  a_is_rule : FunAt K mg "is_rule" s_is_rule
  a_is_grid : FunAt K mg "is_grid" s_is_grid
  a__law_near : FunAt K mg "_law_near" s__law_near
  a__law_mark : FunAt K mg "_law_mark" s__law_mark
  a_need_grid : FunAt K mg "need_grid" s_need_grid
  a_need_number : FunAt K mg "need_number" s_need_number
  a_mark_in : FunAt K mg "mark_in" s_mark_in
  a_mark : FunAt K mg "mark" s_mark
  a_point_in : FunAt K mg "point_in" s_point_in
  a_nearest : FunAt K mg "nearest" s_nearest
  a_point : FunAt K mg "point" s_point
  a_is_point : FunAt K mg "is_point" s_is_point
  a_law : FunAt K mg "law" s_law
  z_abs : mg "abs" = none
  z_bool : mg "bool" = none
  z_divmod : mg "divmod" = none
  z_int : mg "int" = none
  z_isinstance : mg "isinstance" = none
  z_len : mg "len" = none
  z_list : mg "list" = none
  z_max : mg "max" = none
  z_min : mg "min" = none
  z_range : mg "range" = none
  z_repr : mg "repr" = none
  z_sorted : mg "sorted" = none
  z_str : mg "str" = none
  z_tuple : mg "tuple" = none
  c_MOST_STEP : Cn K mg "MOST_STEP" (.int 999)
  c_RULES : Cn K mg "RULES" (.tup [.str "floor", .str "ceil", .str "up", .str "down", .str "even", .str "odd"])
section
variable {P : Program} {w : World} {K : PySem.W.Frag} {mg : Str → Option Value} {base : Heap}
theorem kn__law_pen (T : Txt K mg) : Kn P w K mg base "_law_pen" "_law_pen" s__law_pen 1 false ["script"] F__law_pen := .of (g := g__law_pen) T.a__law_pen sc__law_pen rfl fun f cdv A outer s H E hr hgd B hB =>
    (ss_one (ss_retN (sn_lst (sa_cons (se_new (sn_T hB.symm c_list bt_list T.z_list (sa_cons (se_sl hB.symm (se_name 0) so_none (so_some se_int)) sa_nil))) (sa_cons se_int (sa_cons se_int sa_nil))))))
theorem kn__law_draw (T : Txt K mg) : Kn P w K mg base "_law_draw" "_law_draw" s__law_draw 1 true ["pen", "many"] F__law_draw := .of (g := g__law_draw) T.a__law_draw sc__law_draw rfl fun f cdv A outer s H E hr hgd B hB =>
    (ss_cons (ss_if (st_C hB.symm op_gtD (se_ixOwn 0 hB.symm se_int) se_int)
    (ss_cons (ss_set (i := 2) sc__law_draw.nd rfl (.inl rfl) (se_O hB.symm op_modD (se_T hB.symm c_int bt_int T.z_int (sa_cons (se_ixOwn 0 hB.symm se_int) sa_nil)) (se_name 1)))
    (ss_cons (ss_setIx 0 hB.symm se_int (se_O hB.symm op_fdivD (se_T hB.symm c_int bt_int T.z_int (sa_cons (se_ixOwn 0 hB.symm se_int) sa_nil)) (se_name 1)))
    (ss_one (ss_ret (se_name 2)))))
    ss_nil)
    (ss_cons (ss_set (i := 3) sc__law_draw.nd rfl (.inl rfl) (se_ixOwn 0 hB.symm se_int))
    (ss_cons (ss_setIx 0 hB.symm se_int (se_O hB.symm op_addD (se_name 3) se_int))
    (ss_cons (ss_set (i := 4) sc__law_draw.nd rfl (.inl rfl) (se_O hB.symm op_addD (se_O hB.symm op_mulD se_int (se_name 3)) se_int))
    (ss_cons (ss_if (st_C hB.symm (op_neDD hr.units) (se_ixOwn 0 hB.symm se_int) (se_lst sa_nil))
    (ss_one (ss_set (i := 4) sc__law_draw.nd rfl (.inl rfl) (se_ix hB.symm (se_ixOwn 0 hB.symm se_int) (se_O hB.symm op_modD (se_T hB.symm c_int bt_int T.z_int (sa_cons (se_name 3) sa_nil)) (se_B hB.symm c_len bt_len T.z_len (sa_cons (se_ixOwn 0 hB.symm se_int) sa_nil))))))
    ss_nil)
    (ss_cons (ss_if (SW.st (sw_and (st_C hB.symm op_ltD (se_name 3) (se_B hB.symm c_len bt_len T.z_len (sa_cons (se_ixOwn 0 hB.symm se_int) sa_nil))) (sw_and1 (st_C hB.symm op_geD (se_B hB.symm c_abs bt_abs T.z_abs (sa_cons (se_name 4) sa_nil)) (se_O hB.symm op_powD se_int se_int)))))
    (ss_cons (ss_set (i := 5) sc__law_draw.nd rfl (.inl rfl) (se_O hB.symm op_addD (se_O hB.symm op_mulD se_int (se_O hB.symm op_subD (se_B hB.symm c_abs bt_abs T.z_abs (sa_cons (se_name 4) sa_nil)) (se_O hB.symm op_powD se_int se_int))) (se_T hB.symm c_int bt_int T.z_int (sa_cons (se_C hB.symm op_ltD (se_name 4) se_int) sa_nil))))
    (ss_cons (ss_setIx 0 hB.symm se_int (se_O hB.symm op_fdivD (se_T hB.symm c_int bt_int T.z_int (sa_cons (se_name 5) sa_nil)) (se_name 1)))
    (ss_one (ss_ret (se_O hB.symm op_modD (se_T hB.symm c_int bt_int T.z_int (sa_cons (se_name 5) sa_nil)) (se_name 1))))))
    ss_nil)
    (ss_cons (ss_set (i := 6) sc__law_draw.nd rfl (.inl rfl) (se_O hB.symm op_modD (se_T hB.symm c_int bt_int T.z_int (sa_cons (se_O hB.symm op_powD (se_O hB.symm op_addD (se_O hB.symm op_addD (se_O hB.symm op_modD (se_T hB.symm c_int bt_int T.z_int (sa_cons (se_name 4) sa_nil)) se_int) (se_O hB.symm op_mulD se_int (se_name 3))) se_int) se_int) sa_nil)) se_int))
    (ss_cons (ss_set (i := 6) sc__law_draw.nd rfl (.inl rfl) (se_O hB.symm op_modD (se_T hB.symm c_int bt_int T.z_int (sa_cons (se_O hB.symm op_powD (se_O hB.symm op_addD (se_O hB.symm op_addD (se_O hB.symm op_mulD (se_name 6) (se_O hB.symm op_addD (se_O hB.symm op_mulD se_int (se_name 3)) se_int)) (se_O hB.symm op_mulD (se_O hB.symm op_mulD se_int (se_name 3)) (se_name 3))) se_int) se_int) sa_nil)) se_int))
    (ss_one (ss_ret (se_O hB.symm op_modD (se_T hB.symm c_int bt_int T.z_int (sa_cons (se_O hB.symm op_fdivD (se_name 6) se_int) sa_nil)) (se_name 1))))))))))))
theorem kn__law_pick (T : Txt K mg) : Kn P w K mg base "_law_pick" "_law_pick" s__law_pick 2 true ["pen", "some"] F__law_pick := .of (g := g__law_pick) T.a__law_pick sc__law_pick rfl fun f cdv A outer s H E hr hgd B hB =>
    (ss_one (ss_ret (se_ix hB.symm (se_name 1) (se_callIo 0 ((kn__law_draw T).dnIo ⟨rfl, rfl, rfl, rfl, rfl⟩ hB hr (by decide) hgd (by rfl) (takes_of rfl rfl rfl rfl) (by decide) (fun _ _ _ _ _ _ us ws h1 h2 => match us, ws, h1, h2 with | [_, _], [], _, _ => rfl)) (sa_cons (se_B hB.symm c_len bt_len T.z_len (sa_cons (se_name 1) sa_nil)) sa_nil)))))
theorem kn__law_grid (T : Txt K mg) : Kn P w K mg base "_law_grid" "_law_grid" s__law_grid 3 true ["pen"] F__law_grid := .of (g := g__law_grid) T.a__law_grid sc__law_grid rfl fun f cdv A outer s H E hr hgd B hB =>
    (ss_cons (ss_set (i := 1) sc__law_grid.nd rfl (.inl rfl) (se_callIo 0 ((kn__law_pick T).dnIo ⟨rfl, rfl, rfl, rfl, rfl⟩ hB hr (by decide) hgd (by rfl) (takes_of rfl rfl rfl rfl) (by decide) (fun _ _ _ _ _ _ us ws h1 h2 => match us, ws, h1, h2 with | [_, _], [], _, _ => rfl)) (sa_cons (se_lst (sa_cons se_int (sa_cons se_int (sa_cons se_int (sa_cons se_int (sa_cons se_int (sa_cons se_int (sa_cons se_int (sa_cons se_int (sa_cons se_int (sa_cons (se_O hB.symm op_addD se_int (se_callIo 0 ((kn__law_draw T).dnIo ⟨rfl, rfl, rfl, rfl, rfl⟩ hB hr (by decide) hgd (by rfl) (takes_of rfl rfl rfl rfl) (by decide) (fun _ _ _ _ _ _ us ws h1 h2 => match us, ws, h1, h2 with | [_, _], [], _, _ => rfl)) (sa_cons se_int sa_nil))) sa_nil))))))))))) sa_nil)))
    (ss_one (ss_ret (se_tup (sa_cons (se_name 1) (sa_cons (se_callIo 0 ((kn__law_pick T).dnIo ⟨rfl, rfl, rfl, rfl, rfl⟩ hB hr (by decide) hgd (by rfl) (takes_of rfl rfl rfl rfl) (by decide) (fun _ _ _ _ _ _ us ws h1 h2 => match us, ws, h1, h2 with | [_, _], [], _, _ => rfl)) (sa_cons (se_lst (sa_cons se_int (sa_cons (se_O hB.symm op_subD (se_name 1) se_int) (sa_cons (se_callIo 0 ((kn__law_draw T).dnIo ⟨rfl, rfl, rfl, rfl, rfl⟩ hB hr (by decide) hgd (by rfl) (takes_of rfl rfl rfl rfl) (by decide) (fun _ _ _ _ _ _ us ws h1 h2 => match us, ws, h1, h2 with | [_, _], [], _, _ => rfl)) (sa_cons (se_name 1) sa_nil)) sa_nil)))) sa_nil)) (sa_cons (se_callIo 0 ((kn__law_pick T).dnIo ⟨rfl, rfl, rfl, rfl, rfl⟩ hB hr (by decide) hgd (by rfl) (takes_of rfl rfl rfl rfl) (by decide) (fun _ _ _ _ _ _ us ws h1 h2 => match us, ws, h1, h2 with | [_, _], [], _, _ => rfl)) (sa_cons (se_lst (sa_cons se_str (sa_cons se_str (sa_cons se_str (sa_cons se_str (sa_cons se_str (sa_cons se_str (sa_cons se_str (sa_cons se_str sa_nil))))))))) sa_nil)) sa_nil)))))))
theorem kn_is_row (T : Txt K mg) : Kn P w K mg base "is_row" "is_row" s_is_row 1 false ["value", "most"] F_is_row := .of (g := g_is_row) T.a_is_row sc_is_row rfl fun f cdv A outer s H E hr hgd B hB =>
    (ss_one (ss_ret (se_and (se_B hB.symm c_isi bt_isinstance T.z_isinstance (sa_cons (se_name 0) (sa_cons (se_tup (sa_cons (se_bltn (n := "list") (by rfl) T.z_list bt_list) (sa_cons (se_bltn (n := "tuple") (by rfl) T.z_tuple bt_tuple) sa_nil))) sa_nil))) (se_one (se_C hB.symm op_leD (se_B hB.symm c_len bt_len T.z_len (sa_cons (se_name 0) sa_nil)) (se_name 1))))))
theorem kn_is_integer (T : Txt K mg) : Kn P w K mg base "is_integer" "is_integer" s_is_integer 1 false ["value"] F_is_integer := .of (g := g_is_integer) T.a_is_integer sc_is_integer rfl fun f cdv A outer s H E hr hgd B hB =>
    (ss_one (ss_ret (se_and (se_B hB.symm c_isi bt_isinstance T.z_isinstance (sa_cons (se_name 0) (sa_cons (se_bltn (n := "int") (by rfl) T.z_int bt_int) sa_nil))) (se_one (se_not (se_B hB.symm c_isi bt_isinstance T.z_isinstance (sa_cons (se_name 0) (sa_cons (se_bltn (n := "bool") (by rfl) T.z_bool bt_bool) sa_nil))))))))
theorem kn_is_within (T : Txt K mg) : Kn P w K mg base "is_within" "is_within" s_is_within 2 false ["value", "least", "most"] F_is_within := .of (g := g_is_within) T.a_is_within sc_is_within rfl fun f cdv A outer s H E hr hgd B hB =>
    (ss_cons (ss_if (st_not (st_val (se_call ((kn_is_integer T).dn (n1 := 1) (ks := []) (idx := [0]) ⟨rfl, rfl, rfl, rfl, rfl⟩ hB hr (by decide) hgd (by rfl) (takes_of rfl rfl rfl rfl) (by decide) (fun _ _ _ _ _ _ us ws h1 h2 => match us, ws, h1, h2 with | [_], [], _, _ => rfl)) (sa_cons (se_name 0) sa_nil))))
    (ss_one (ss_ret se_bl))
    ss_nil)
    (ss_one (ss_ret (se_and (se_or (se_C hB.symm op_isD (se_name 1) se_non) (se_one (se_C hB.symm op_geD (se_name 0) (se_name 1)))) (se_one (se_or (se_C hB.symm op_isD (se_name 2) se_non) (se_one (se_C hB.symm op_leD (se_name 0) (se_name 2)))))))))
theorem kn_is_rule (T : Txt K mg) : Kn P w K mg base "is_rule" "is_rule" s_is_rule 1 false ["value"] F_is_rule := .of (g := g_is_rule) T.a_is_rule sc_is_rule rfl fun f cdv A outer s H E hr hgd B hB =>
    (ss_one (ss_ret (se_and (se_B hB.symm c_isi bt_isinstance T.z_isinstance (sa_cons (se_name 0) (sa_cons (se_bltn (n := "str") (by rfl) T.z_str bt_str) sa_nil))) (se_one (se_C hB.symm op_inD (se_name 0) (se_glob (by rfl) (T.c_RULES.glb rfl hB)))))))
theorem kn_is_grid (T : Txt K mg) : Kn P w K mg base "is_grid" "is_grid" s_is_grid 3 false ["value"] F_is_grid := .of (g := g_is_grid) T.a_is_grid sc_is_grid rfl fun f cdv A outer s H E hr hgd B hB =>
    (ss_cons (ss_if (SW.st (sw_or (st_not (st_val (se_call ((kn_is_row T).dn (n1 := 2) (ks := []) (idx := [0, 1]) ⟨rfl, rfl, rfl, rfl, rfl⟩ hB hr (by decide) hgd (by rfl) (takes_of rfl rfl rfl rfl) (by decide) (fun _ _ _ _ _ _ us ws h1 h2 => match us, ws, h1, h2 with | [_, _], [], _, _ => rfl)) (sa_cons (se_name 0) (sa_cons se_int sa_nil))))) (sw_or (st_C hB.symm (op_neDD hr.units) (se_B hB.symm c_len bt_len T.z_len (sa_cons (se_name 0) sa_nil)) se_int) (sw_or1 (st_not (st_val (se_call ((kn_is_within T).dn (n1 := 3) (ks := []) (idx := [0, 1, 2]) ⟨rfl, rfl, rfl, rfl, rfl⟩ hB hr (by decide) hgd (by rfl) (takes_of rfl rfl rfl rfl) (by decide) (fun _ _ _ _ _ _ us ws h1 h2 => match us, ws, h1, h2 with | [_, _, _], [], _, _ => rfl)) (sa_cons (se_ix hB.symm (se_name 0) se_int) (sa_cons se_int (sa_cons (se_glob (by rfl) (T.c_MOST_STEP.glb rfl hB)) sa_nil))))))))))
    (ss_one (ss_ret se_bl))
    ss_nil)
    (ss_one (ss_ret (se_and (se_call ((kn_is_within T).dn (n1 := 3) (ks := []) (idx := [0, 1, 2]) ⟨rfl, rfl, rfl, rfl, rfl⟩ hB hr (by decide) hgd (by rfl) (takes_of rfl rfl rfl rfl) (by decide) (fun _ _ _ _ _ _ us ws h1 h2 => match us, ws, h1, h2 with | [_, _, _], [], _, _ => rfl)) (sa_cons (se_ix hB.symm (se_name 0) se_int) (sa_cons se_int (sa_cons (se_O hB.symm op_subD (se_ix hB.symm (se_name 0) se_int) se_int) sa_nil)))) (se_one (se_call ((kn_is_rule T).dn (n1 := 1) (ks := []) (idx := [0]) ⟨rfl, rfl, rfl, rfl, rfl⟩ hB hr (by decide) hgd (by rfl) (takes_of rfl rfl rfl rfl) (by decide) (fun _ _ _ _ _ _ us ws h1 h2 => match us, ws, h1, h2 with | [_], [], _, _ => rfl)) (sa_cons (se_ix hB.symm (se_name 0) se_int) sa_nil)))))))
theorem kn__law_near (T : Txt K mg) : Kn P w K mg base "_law_near" "_law_near" s__law_near 3 true ["pen", "grid"] F__law_near := .of (g := g__law_near) T.a__law_near sc__law_near rfl fun f cdv A outer s H E hr hgd B hB =>
    (ss_cons (ss_asg (se_name 1) (sg_tup rfl hB.symm (sgs_cons (sg_name sc__law_near.nd (i := 2) rfl (.inl rfl)) (sgs_cons (sg_name sc__law_near.nd (i := 3) rfl (.inl rfl)) (sgs_cons (sg_name sc__law_near.nd (i := 4) rfl (.inl rfl)) sgs_nil)))))
    (ss_cons (ss_set (i := 5) sc__law_near.nd rfl (.inl rfl) (se_callIo 0 ((kn__law_pick T).dnIo ⟨rfl, rfl, rfl, rfl, rfl⟩ hB hr (by decide) hgd (by rfl) (takes_of rfl rfl rfl rfl) (by decide) (fun _ _ _ _ _ _ us ws h1 h2 => match us, ws, h1, h2 with | [_, _], [], _, _ => rfl)) (sa_cons (se_lst (sa_cons se_int (sa_cons se_int (sa_cons (se_neg hB.symm se_int) (sa_cons (se_O hB.symm op_subD (se_callIo 0 ((kn__law_draw T).dnIo ⟨rfl, rfl, rfl, rfl, rfl⟩ hB hr (by decide) hgd (by rfl) (takes_of rfl rfl rfl rfl) (by decide) (fun _ _ _ _ _ _ us ws h1 h2 => match us, ws, h1, h2 with | [_, _], [], _, _ => rfl)) (sa_cons se_int sa_nil)) se_int) (sa_cons (se_O hB.symm op_addD (se_O hB.symm op_powD se_int se_int) (se_callIo 0 ((kn__law_draw T).dnIo ⟨rfl, rfl, rfl, rfl, rfl⟩ hB hr (by decide) hgd (by rfl) (takes_of rfl rfl rfl rfl) (by decide) (fun _ _ _ _ _ _ us ws h1 h2 => match us, ws, h1, h2 with | [_, _], [], _, _ => rfl)) (sa_cons (se_O hB.symm op_powD se_int se_int) sa_nil))) (sa_cons (se_O hB.symm op_subD (se_callIo 0 ((kn__law_draw T).dnIo ⟨rfl, rfl, rfl, rfl, rfl⟩ hB hr (by decide) hgd (by rfl) (takes_of rfl rfl rfl rfl) (by decide) (fun _ _ _ _ _ _ us ws h1 h2 => match us, ws, h1, h2 with | [_, _], [], _, _ => rfl)) (sa_cons (se_O hB.symm op_powD se_int se_int) sa_nil)) (se_O hB.symm op_powD se_int se_int)) sa_nil))))))) sa_nil)))
    (ss_one (ss_ret (se_O hB.symm op_addD (se_O hB.symm op_addD (se_name 3) (se_O hB.symm op_mulD (se_name 2) (se_name 5))) (se_callIo 0 ((kn__law_pick T).dnIo ⟨rfl, rfl, rfl, rfl, rfl⟩ hB hr (by decide) hgd (by rfl) (takes_of rfl rfl rfl rfl) (by decide) (fun _ _ _ _ _ _ us ws h1 h2 => match us, ws, h1, h2 with | [_, _], [], _, _ => rfl)) (sa_cons (se_lst (sa_cons se_int (sa_cons se_int (sa_cons (se_neg hB.symm se_int) (sa_cons (se_O hB.symm op_fdivD (se_name 2) se_int) (sa_cons (se_O hB.symm op_addD (se_O hB.symm op_fdivD (se_name 2) se_int) se_int) (sa_cons (se_O hB.symm op_subD (se_name 2) se_int) (sa_cons (se_callIo 0 ((kn__law_draw T).dnIo ⟨rfl, rfl, rfl, rfl, rfl⟩ hB hr (by decide) hgd (by rfl) (takes_of rfl rfl rfl rfl) (by decide) (fun _ _ _ _ _ _ us ws h1 h2 => match us, ws, h1, h2 with | [_, _], [], _, _ => rfl)) (sa_cons (se_name 2) sa_nil)) sa_nil)))))))) sa_nil)))))))
theorem kn__law_mark (T : Txt K mg) : Kn P w K mg base "_law_mark" "_law_mark" s__law_mark 1 false ["grid", "number"] F__law_mark := .of (g := g__law_mark) T.a__law_mark sc__law_mark rfl fun f cdv A outer s H E hr hgd B hB =>
    (ss_cons (ss_asg (se_name 0) (sg_tup rfl hB.symm (sgs_cons (sg_name sc__law_mark.nd (i := 2) rfl (.inr rfl)) (sgs_cons (sg_name sc__law_mark.nd (i := 3) rfl (.inr rfl)) (sgs_cons (sg_name sc__law_mark.nd (i := 4) rfl (.inr rfl)) sgs_nil)))))
    (ss_cons (ss_set (i := 5) sc__law_mark.nd rfl (.inl rfl) (se_O hB.symm op_fdivD (se_O hB.symm op_subD (se_name 1) (se_name 3)) (se_name 2)))
    (ss_cons (ss_setLc (i := 6) rfl sc__law_mark.nd rfl rfl (by rfl) (si_rngW (by rfl) T.z_range (se_O hB.symm op_subD (se_name 5) se_int) (se_O hB.symm op_addD (se_name 5) se_int)) (blkOk_by (own := [("place", 9)]) (by rfl)) (fun _ _ _ _ _ B1 h1 => (sg_name sc__law_mark.nd (i := 9) rfl (by first | exact .inl rfl | exact .inr rfl))) (fun _ _ _ _ _ B1 h1 => sts_nil) (fun _ _ _ _ _ B1 h1 => (se_tup (sa_cons (se_B (h1.trans hB).symm c_abs bt_abs T.z_abs (sa_cons (se_O (h1.trans hB).symm op_subD (se_O (h1.trans hB).symm op_subD (se_name 1) (se_name 3)) (se_O (h1.trans hB).symm op_mulD (se_name 2) (se_name 9))) sa_nil)) (sa_cons (se_name 9) sa_nil)))) (by decide))
    (ss_cons (ss_if (st_C hB.symm (op_eqDD hr.units) (se_name 4) se_str)
    (ss_one (ss_ret (se_B hB.symm (c_max rfl) bt_max T.z_max (sa_cons (se_new (sn_lc rfl sc__law_mark.nd (si_seq hB.symm (se_name 6)) (blkOk_by (own := [("far", 10), ("place", 9)]) (by rfl)) (fun _ _ _ _ _ B1 h1 => (sg_tup rfl (h1.trans hB).symm (sgs_cons (sg_name sc__law_mark.nd (i := 10) rfl (by first | exact .inl rfl | exact .inr rfl)) (sgs_cons (sg_name sc__law_mark.nd (i := 9) rfl (by first | exact .inl rfl | exact .inr rfl)) sgs_nil)))) (fun _ _ _ _ _ B1 h1 => (sts_one (st_C (h1.trans hB).symm op_leD (se_O (h1.trans hB).symm op_addD (se_name 3) (se_O (h1.trans hB).symm op_mulD (se_name 2) (se_name 9))) (se_name 1)))) (fun _ _ _ _ _ B1 h1 => (se_name 9)) (by decide))) sa_nil))))
    ss_nil)
    (ss_cons (ss_if (st_C hB.symm (op_eqDD hr.units) (se_name 4) se_str)
    (ss_one (ss_ret (se_B hB.symm (c_min rfl) bt_min T.z_min (sa_cons (se_new (sn_lc rfl sc__law_mark.nd (si_seq hB.symm (se_name 6)) (blkOk_by (own := [("far", 10), ("place", 9)]) (by rfl)) (fun _ _ _ _ _ B1 h1 => (sg_tup rfl (h1.trans hB).symm (sgs_cons (sg_name sc__law_mark.nd (i := 10) rfl (by first | exact .inl rfl | exact .inr rfl)) (sgs_cons (sg_name sc__law_mark.nd (i := 9) rfl (by first | exact .inl rfl | exact .inr rfl)) sgs_nil)))) (fun _ _ _ _ _ B1 h1 => (sts_one (st_C (h1.trans hB).symm op_geD (se_O (h1.trans hB).symm op_addD (se_name 3) (se_O (h1.trans hB).symm op_mulD (se_name 2) (se_name 9))) (se_name 1)))) (fun _ _ _ _ _ B1 h1 => (se_name 9)) (by decide))) sa_nil))))
    ss_nil)
    (ss_cons (ss_set (i := 7) sc__law_mark.nd rfl (.inr rfl) (se_ix hB.symm (se_B hB.symm (c_minT rfl hr.units) bt_min T.z_min (sa_cons (se_name 6) sa_nil)) se_int))
    (ss_cons (ss_setLc (i := 8) rfl sc__law_mark.nd rfl rfl (by rfl) (si_seq hB.symm (se_name 6)) (blkOk_by (own := [("far", 10), ("place", 9)]) (by rfl)) (fun _ _ _ _ _ B1 h1 => (sg_tup rfl (h1.trans hB).symm (sgs_cons (sg_name sc__law_mark.nd (i := 10) rfl (by first | exact .inl rfl | exact .inr rfl)) (sgs_cons (sg_name sc__law_mark.nd (i := 9) rfl (by first | exact .inl rfl | exact .inr rfl)) sgs_nil)))) (fun _ _ _ _ _ B1 h1 => (sts_one (st_C (h1.trans hB).symm (op_eqDD hr.units) (se_name 10) (se_name 7)))) (fun _ _ _ _ _ B1 h1 => (se_name 9)) (by decide))
    (ss_cons (ss_if (st_C hB.symm (op_eqDD hr.units) (se_B hB.symm c_len bt_len T.z_len (sa_cons (se_name 8) sa_nil)) se_int)
    (ss_one (ss_ret (se_ix hB.symm (se_name 8) se_int)))
    ss_nil)
    (ss_cons (ss_if (st_C hB.symm op_inD (se_name 4) (se_tup (sa_cons se_str (sa_cons se_str sa_nil))))
    (ss_one (ss_ret (se_if (st_C hB.symm (op_eqDD hr.units) (se_name 4) se_str) (se_B hB.symm (c_max rfl) bt_max T.z_max (sa_cons (se_name 8) sa_nil)) (se_B hB.symm (c_min rfl) bt_min T.z_min (sa_cons (se_name 8) sa_nil)))))
    ss_nil)
    (ss_one (ss_ret (se_ix hB.symm (se_new (sn_lc rfl sc__law_mark.nd (si_seq hB.symm (se_name 8)) (blkOk_by (own := [("place", 9)]) (by rfl)) (fun _ _ _ _ _ B1 h1 => (sg_name sc__law_mark.nd (i := 9) rfl (by first | exact .inl rfl | exact .inr rfl))) (fun _ _ _ _ _ B1 h1 => (sts_one (st_C (h1.trans hB).symm (op_eqDD hr.units) (se_O (h1.trans hB).symm op_modD (se_T (h1.trans hB).symm c_int bt_int T.z_int (sa_cons (se_name 9) sa_nil)) se_int) (se_T (h1.trans hB).symm c_int bt_int T.z_int (sa_cons (se_C (h1.trans hB).symm (op_eqDD hr.units) (se_name 4) se_str) sa_nil))))) (fun _ _ _ _ _ B1 h1 => (se_name 9)) (by decide))) se_int))))))))))))
theorem kn_need_grid (T : Txt K mg) : Kn P w K mg base "need_grid" "need_grid" s_need_grid 4 false ["value"] F_need_grid := .of (g := g_need_grid) T.a_need_grid sc_need_grid rfl fun f cdv A outer s H E hr hgd B hB =>
    (ss_cons (ss_if (st_not (st_val (se_call ((kn_is_grid T).dn (n1 := 1) (ks := []) (idx := [0]) ⟨rfl, rfl, rfl, rfl, rfl⟩ hB hr (by decide) hgd (by rfl) (takes_of rfl rfl rfl rfl) (by decide) (fun _ _ _ _ _ _ us ws h1 h2 => match us, ws, h1, h2 with | [_], [], _, _ => rfl)) (sa_cons (se_name 0) sa_nil))))
    (ss_one ss_never)
    ss_nil)
    (ss_one (ss_ret (se_T hB.symm c_tuple bt_tuple T.z_tuple (sa_cons (se_name 0) sa_nil)))))
theorem kn_need_number (T : Txt K mg) : Kn P w K mg base "need_number" "need_number" s_need_number 2 false ["value", "part"] F_need_number := .of (g := g_need_number) T.a_need_number sc_need_number rfl fun f cdv A outer s H E hr hgd B hB =>
    (ss_one (ss_if (st_not (st_val (se_call ((kn_is_integer T).dn (n1 := 1) (ks := []) (idx := [0]) ⟨rfl, rfl, rfl, rfl, rfl⟩ hB hr (by decide) hgd (by rfl) (takes_of rfl rfl rfl rfl) (by decide) (fun _ _ _ _ _ _ us ws h1 h2 => match us, ws, h1, h2 with | [_], [], _, _ => rfl)) (sa_cons (se_name 0) sa_nil))))
    (ss_one ss_never)
    ss_nil))
theorem kn_mark_in (T : Txt K mg) : Kn P w K mg base "mark_in" "mark_in" s_mark_in 1 false ["grid", "number"] F_mark_in := .of (g := g_mark_in) T.a_mark_in sc_mark_in rfl fun f cdv A outer s H E hr hgd B hB =>
    (ss_cons (ss_asg (se_name 0) (sg_tup rfl hB.symm (sgs_cons (sg_name sc_mark_in.nd (i := 2) rfl (.inl rfl)) (sgs_cons (sg_name sc_mark_in.nd (i := 3) rfl (.inl rfl)) (sgs_cons (sg_name sc_mark_in.nd (i := 4) rfl (.inl rfl)) sgs_nil)))))
    (ss_cons (ss_asg (se_B hB.symm c_divmod bt_divmod T.z_divmod (sa_cons (se_O hB.symm op_subD (se_name 1) (se_name 3)) (sa_cons (se_name 2) sa_nil))) (sg_tup rfl hB.symm (sgs_cons (sg_name sc_mark_in.nd (i := 5) rfl (.inl rfl)) (sgs_cons (sg_name sc_mark_in.nd (i := 6) rfl (.inl rfl)) sgs_nil))))
    (ss_cons (ss_if (SW.st (sw_or (st_C hB.symm (op_eqDD hr.units) (se_name 6) se_int) (sw_or1 (st_C hB.symm (op_eqDD hr.units) (se_name 4) se_str))))
    (ss_one (ss_ret (se_name 5)))
    ss_nil)
    (ss_cons (ss_if (st_C hB.symm (op_eqDD hr.units) (se_name 4) se_str)
    (ss_one (ss_ret (se_O hB.symm op_addD (se_name 5) se_int)))
    ss_nil)
    (ss_cons (ss_if (st_C hB.symm (op_neDD hr.units) (se_O hB.symm op_mulD se_int (se_name 6)) (se_name 2))
    (ss_one (ss_ret (se_O hB.symm op_addD (se_name 5) (se_T hB.symm c_int bt_int T.z_int (sa_cons (se_C hB.symm op_gtD (se_O hB.symm op_mulD se_int (se_name 6)) (se_name 2)) sa_nil)))))
    ss_nil)
    (ss_cons (ss_if (st_C hB.symm (op_eqDD hr.units) (se_name 4) se_str)
    (ss_one (ss_ret (se_O hB.symm op_addD (se_name 5) se_int)))
    ss_nil)
    (ss_cons (ss_if (st_C hB.symm (op_eqDD hr.units) (se_name 4) se_str)
    (ss_one (ss_ret (se_name 5)))
    ss_nil)
    (ss_one (ss_ret (se_if (st_C hB.symm (op_eqDD hr.units) (se_name 4) se_str) (se_O hB.symm op_addD (se_name 5) (se_O hB.symm op_modD (se_name 5) se_int)) (se_O hB.symm op_subD (se_O hB.symm op_addD (se_name 5) se_int) (se_O hB.symm op_modD (se_name 5) se_int))))))))))))
theorem kn_mark (T : Txt K mg) : Kn P w K mg base "mark" "mark" s_mark 5 false ["grid", "number"] F_mark := .of (g := g_mark) T.a_mark sc_mark rfl fun f cdv A outer s H E hr hgd B hB =>
    (ss_cons (ss_set (i := 2) sc_mark.nd rfl (.inl rfl) (se_call ((kn_need_grid T).dn (n1 := 1) (ks := []) (idx := [0]) ⟨rfl, rfl, rfl, rfl, rfl⟩ hB hr (by decide) hgd (by rfl) (takes_of rfl rfl rfl rfl) (by decide) (fun _ _ _ _ _ _ us ws h1 h2 => match us, ws, h1, h2 with | [_], [], _, _ => rfl)) (sa_cons (se_name 0) sa_nil)))
    (ss_cons (ss_expr (se_call ((kn_need_number T).dn (n1 := 2) (ks := []) (idx := [0, 1]) ⟨rfl, rfl, rfl, rfl, rfl⟩ hB hr (by decide) hgd (by rfl) (takes_of rfl rfl rfl rfl) (by decide) (fun _ _ _ _ _ _ us ws h1 h2 => match us, ws, h1, h2 with | [_, _], [], _, _ => rfl)) (sa_cons (se_name 1) (sa_cons se_str sa_nil))))
    (ss_one (ss_ret (se_call ((kn_mark_in T).dn (n1 := 2) (ks := []) (idx := [0, 1]) ⟨rfl, rfl, rfl, rfl, rfl⟩ hB hr (by decide) hgd (by rfl) (takes_of rfl rfl rfl rfl) (by decide) (fun _ _ _ _ _ _ us ws h1 h2 => match us, ws, h1, h2 with | [_, _], [], _, _ => rfl)) (sa_cons (se_name 2) (sa_cons (se_name 1) sa_nil)))))))
theorem kn_point_in (T : Txt K mg) : Kn P w K mg base "point_in" "point_in" s_point_in 1 false ["grid", "place"] F_point_in := .of (g := g_point_in) T.a_point_in sc_point_in rfl fun f cdv A outer s H E hr hgd B hB =>
    (ss_one (ss_ret (se_O hB.symm op_addD (se_ix hB.symm (se_name 0) se_int) (se_O hB.symm op_mulD (se_ix hB.symm (se_name 0) se_int) (se_name 1)))))
theorem kn_nearest (T : Txt K mg) : Kn P w K mg base "nearest" "nearest" s_nearest 5 false ["grid", "number"] F_nearest := .of (g := g_nearest) T.a_nearest sc_nearest rfl fun f cdv A outer s H E hr hgd B hB =>
    (ss_cons (ss_set (i := 2) sc_nearest.nd rfl (.inl rfl) (se_call ((kn_need_grid T).dn (n1 := 1) (ks := []) (idx := [0]) ⟨rfl, rfl, rfl, rfl, rfl⟩ hB hr (by decide) hgd (by rfl) (takes_of rfl rfl rfl rfl) (by decide) (fun _ _ _ _ _ _ us ws h1 h2 => match us, ws, h1, h2 with | [_], [], _, _ => rfl)) (sa_cons (se_name 0) sa_nil)))
    (ss_cons (ss_expr (se_call ((kn_need_number T).dn (n1 := 2) (ks := []) (idx := [0, 1]) ⟨rfl, rfl, rfl, rfl, rfl⟩ hB hr (by decide) hgd (by rfl) (takes_of rfl rfl rfl rfl) (by decide) (fun _ _ _ _ _ _ us ws h1 h2 => match us, ws, h1, h2 with | [_, _], [], _, _ => rfl)) (sa_cons (se_name 1) (sa_cons se_str sa_nil))))
    (ss_one (ss_ret (se_call ((kn_point_in T).dn (n1 := 2) (ks := []) (idx := [0, 1]) ⟨rfl, rfl, rfl, rfl, rfl⟩ hB hr (by decide) hgd (by rfl) (takes_of rfl rfl rfl rfl) (by decide) (fun _ _ _ _ _ _ us ws h1 h2 => match us, ws, h1, h2 with | [_, _], [], _, _ => rfl)) (sa_cons (se_name 2) (sa_cons (se_call ((kn_mark_in T).dn (n1 := 2) (ks := []) (idx := [0, 1]) ⟨rfl, rfl, rfl, rfl, rfl⟩ hB hr (by decide) hgd (by rfl) (takes_of rfl rfl rfl rfl) (by decide) (fun _ _ _ _ _ _ us ws h1 h2 => match us, ws, h1, h2 with | [_, _], [], _, _ => rfl)) (sa_cons (se_name 2) (sa_cons (se_name 1) sa_nil))) sa_nil)))))))
theorem kn_point (T : Txt K mg) : Kn P w K mg base "point" "point" s_point 5 false ["grid", "place"] F_point := .of (g := g_point) T.a_point sc_point rfl fun f cdv A outer s H E hr hgd B hB =>
    (ss_cons (ss_set (i := 2) sc_point.nd rfl (.inl rfl) (se_call ((kn_need_grid T).dn (n1 := 1) (ks := []) (idx := [0]) ⟨rfl, rfl, rfl, rfl, rfl⟩ hB hr (by decide) hgd (by rfl) (takes_of rfl rfl rfl rfl) (by decide) (fun _ _ _ _ _ _ us ws h1 h2 => match us, ws, h1, h2 with | [_], [], _, _ => rfl)) (sa_cons (se_name 0) sa_nil)))
    (ss_cons (ss_expr (se_call ((kn_need_number T).dn (n1 := 2) (ks := []) (idx := [0, 1]) ⟨rfl, rfl, rfl, rfl, rfl⟩ hB hr (by decide) hgd (by rfl) (takes_of rfl rfl rfl rfl) (by decide) (fun _ _ _ _ _ _ us ws h1 h2 => match us, ws, h1, h2 with | [_, _], [], _, _ => rfl)) (sa_cons (se_name 1) (sa_cons se_str sa_nil))))
    (ss_one (ss_ret (se_call ((kn_point_in T).dn (n1 := 2) (ks := []) (idx := [0, 1]) ⟨rfl, rfl, rfl, rfl, rfl⟩ hB hr (by decide) hgd (by rfl) (takes_of rfl rfl rfl rfl) (by decide) (fun _ _ _ _ _ _ us ws h1 h2 => match us, ws, h1, h2 with | [_, _], [], _, _ => rfl)) (sa_cons (se_name 2) (sa_cons (se_name 1) sa_nil)))))))
theorem kn_is_point (T : Txt K mg) : Kn P w K mg base "is_point" "is_point" s_is_point 5 false ["grid", "number"] F_is_point := .of (g := g_is_point) T.a_is_point sc_is_point rfl fun f cdv A outer s H E hr hgd B hB =>
    (ss_cons (ss_set (i := 2) sc_is_point.nd rfl (.inl rfl) (se_call ((kn_need_grid T).dn (n1 := 1) (ks := []) (idx := [0]) ⟨rfl, rfl, rfl, rfl, rfl⟩ hB hr (by decide) hgd (by rfl) (takes_of rfl rfl rfl rfl) (by decide) (fun _ _ _ _ _ _ us ws h1 h2 => match us, ws, h1, h2 with | [_], [], _, _ => rfl)) (sa_cons (se_name 0) sa_nil)))
    (ss_cons (ss_expr (se_call ((kn_need_number T).dn (n1 := 2) (ks := []) (idx := [0, 1]) ⟨rfl, rfl, rfl, rfl, rfl⟩ hB hr (by decide) hgd (by rfl) (takes_of rfl rfl rfl rfl) (by decide) (fun _ _ _ _ _ _ us ws h1 h2 => match us, ws, h1, h2 with | [_, _], [], _, _ => rfl)) (sa_cons (se_name 1) (sa_cons se_str sa_nil))))
    (ss_one (ss_ret (se_C hB.symm (op_eqDD hr.units) (se_O hB.symm op_modD (se_O hB.symm op_subD (se_name 1) (se_ix hB.symm (se_name 2) se_int)) (se_ix hB.symm (se_name 2) se_int)) se_int)))))
theorem kn_law (T : Txt K mg) : Kn P w K mg base "law" "law" s_law 6 false ["script"] F_law := .of (g := g_law) T.a_law sc_law rfl fun f cdv A outer s H E hr hgd B hB =>
    (ss_cons (ss_setN (i := 1) sc_law.nd rfl (.inr rfl) (sn_call ((kn__law_pen T).dn (n1 := 1) (ks := []) (idx := [0]) ⟨rfl, rfl, rfl, rfl, rfl⟩ hB hr (by decide) hgd (by rfl) (takes_of rfl rfl rfl rfl) (by decide) (fun _ _ _ _ _ _ us ws h1 h2 => match us, ws, h1, h2 with | [_], [], _, _ => rfl)) (sa_cons (se_name 0) sa_nil)))
    (ss_cons (ss_if (st_C hB.symm (op_neDD hr.units) (se_glob (by rfl) (T.c_RULES.glb rfl hB)) (se_tup (sa_cons se_str (sa_cons se_str (sa_cons se_str (sa_cons se_str (sa_cons se_str (sa_cons se_str sa_nil))))))))
    (ss_one (ss_ret se_bl))
    ss_nil)
    (ss_cons (ss_for (passes_of rfl) rfl (si_rng1 (by rfl) T.z_range se_int) (sg_name sc_law.nd (i := 2) rfl (.inl rfl))
    (ss_cons (ss_asg (se_tup (sa_cons (se_callIo 1 ((kn__law_grid T).dnIo ⟨rfl, rfl, rfl, rfl, rfl⟩ hB hr (by decide) hgd (by rfl) (takes_of rfl rfl rfl rfl) (by decide) (fun _ _ _ _ _ _ us ws h1 h2 => match us, ws, h1, h2 with | [_], [], _, _ => rfl)) sa_nil) (sa_cons se_non sa_nil))) (sg_tup rfl hB.symm (sgs_cons (sg_name sc_law.nd (i := 3) rfl (.inr rfl)) (sgs_cons (sg_name sc_law.nd (i := 4) rfl (.inl rfl)) sgs_nil))))
    (ss_cons (ss_asg (se_name 3) (sg_tup rfl hB.symm (sgs_cons (sg_name sc_law.nd (i := 5) rfl (.inl rfl)) (sgs_cons (sg_name sc_law.nd (i := 6) rfl (.inl rfl)) (sgs_cons (sg_name sc_law.nd (i := 7) rfl (.inl rfl)) sgs_nil)))))
    (ss_cons (ss_if (SW.st (sw_or (st_C hB.symm op_isNotD (se_call ((kn_is_grid T).dn (n1 := 1) (ks := []) (idx := [0]) ⟨rfl, rfl, rfl, rfl, rfl⟩ hB hr (by decide) hgd (by rfl) (takes_of rfl rfl rfl rfl) (by decide) (fun _ _ _ _ _ _ us ws h1 h2 => match us, ws, h1, h2 with | [_], [], _, _ => rfl)) (sa_cons (se_name 3) sa_nil)) se_bl) (sw_or1 (st_C hB.symm op_isNotD (se_callK0 ((kn_is_grid T).dn (n1 := 0) (ks := ["value"]) (idx := [0]) ⟨rfl, rfl, rfl, rfl, rfl⟩ hB hr (by decide) hgd (by rfl) (takes_of rfl rfl rfl rfl) (by decide) (fun _ _ _ _ _ _ us ws h1 h2 => match us, ws, h1, h2 with | [], [_], _, _ => rfl)) (sk_cons (se_new (sn_T hB.symm c_list bt_list T.z_list (sa_cons (se_name 3) sa_nil))) sk_nil)) se_bl))))
    (ss_one (ss_ret se_bl))
    ss_nil)
    (ss_cons (ss_set (i := 8) sc_law.nd rfl (.inl rfl) (se_new (sn_B hB.symm c_sorted bt_sorted T.z_sorted (sa_cons (se_new (sn_lc rfl sc_law.nd (si_rng1 (by rfl) T.z_range se_int) (blkOk_by (own := [("lap", 14)]) (by rfl)) (fun _ _ _ _ _ B1 h1 => (sg_name sc_law.nd (i := 14) rfl (by first | exact .inl rfl | exact .inr rfl))) (fun _ _ _ _ _ B1 h1 => sts_nil) (fun _ _ _ _ _ B1 h1 => (se_callIo 1 ((kn__law_near T).dnIo ⟨rfl, rfl, rfl, rfl, rfl⟩ (h1.trans hB) hr (by decide) hgd (by rfl) takes0 (by decide) (fun _ _ _ _ _ _ us ws h1 h2 => match us, ws, h1, h2 with | [_, _], [], _, _ => rfl)) (sa_cons (se_name 3) sa_nil))) (by decide))) sa_nil))))
    (ss_one (ss_for (passes_of rfl) rfl (si_seq hB.symm (se_name 8)) (sg_name sc_law.nd (i := 9) rfl (.inl rfl))
    (ss_cons (ss_set (i := 10) sc_law.nd rfl (.inl rfl) (se_call ((kn__law_mark T).dn (n1 := 2) (ks := []) (idx := [0, 1]) ⟨rfl, rfl, rfl, rfl, rfl⟩ hB hr (by decide) hgd (by rfl) (takes_of rfl rfl rfl rfl) (by decide) (fun _ _ _ _ _ _ us ws h1 h2 => match us, ws, h1, h2 with | [_, _], [], _, _ => rfl)) (sa_cons (se_name 3) (sa_cons (se_name 9) sa_nil))))
    (ss_cons (ss_set (i := 11) sc_law.nd rfl (.inl rfl) (se_O hB.symm op_addD (se_name 6) (se_O hB.symm op_mulD (se_name 5) (se_name 10))))
    (ss_cons (ss_set (i := 12) sc_law.nd rfl (.inl rfl) (se_lst (sa_cons (se_call ((kn_mark T).dn (n1 := 2) (ks := []) (idx := [0, 1]) ⟨rfl, rfl, rfl, rfl, rfl⟩ hB hr (by decide) hgd (by rfl) (takes_of rfl rfl rfl rfl) (by decide) (fun _ _ _ _ _ _ us ws h1 h2 => match us, ws, h1, h2 with | [_, _], [], _, _ => rfl)) (sa_cons (se_name 3) (sa_cons (se_name 9) sa_nil))) (sa_cons (se_call ((kn_nearest T).dn (n1 := 2) (ks := []) (idx := [0, 1]) ⟨rfl, rfl, rfl, rfl, rfl⟩ hB hr (by decide) hgd (by rfl) (takes_of rfl rfl rfl rfl) (by decide) (fun _ _ _ _ _ _ us ws h1 h2 => match us, ws, h1, h2 with | [_, _], [], _, _ => rfl)) (sa_cons (se_new (sn_T hB.symm c_list bt_list T.z_list (sa_cons (se_name 3) sa_nil))) (sa_cons (se_name 9) sa_nil))) (sa_cons (se_call ((kn_point T).dn (n1 := 2) (ks := []) (idx := [0, 1]) ⟨rfl, rfl, rfl, rfl, rfl⟩ hB hr (by decide) hgd (by rfl) (takes_of rfl rfl rfl rfl) (by decide) (fun _ _ _ _ _ _ us ws h1 h2 => match us, ws, h1, h2 with | [_, _], [], _, _ => rfl)) (sa_cons (se_name 3) (sa_cons (se_name 10) sa_nil))) (sa_cons (se_callK0 ((kn_mark T).dn (n1 := 0) (ks := ["number", "grid"]) (idx := [1, 0]) ⟨rfl, rfl, rfl, rfl, rfl⟩ hB hr (by decide) hgd (by rfl) (takes_of rfl rfl rfl rfl) (by decide) (fun _ _ _ _ _ _ us ws h1 h2 => match us, ws, h1, h2 with | [], [_, _], _, _ => rfl)) (sk_cons (se_name 9) (sk_cons (se_name 3) sk_nil))) (sa_cons (se_callK0 ((kn_nearest T).dn (n1 := 0) (ks := ["number", "grid"]) (idx := [1, 0]) ⟨rfl, rfl, rfl, rfl, rfl⟩ hB hr (by decide) hgd (by rfl) (takes_of rfl rfl rfl rfl) (by decide) (fun _ _ _ _ _ _ us ws h1 h2 => match us, ws, h1, h2 with | [], [_, _], _, _ => rfl)) (sk_cons (se_name 9) (sk_cons (se_name 3) sk_nil))) (sa_cons (se_callK0 ((kn_point T).dn (n1 := 0) (ks := ["place", "grid"]) (idx := [1, 0]) ⟨rfl, rfl, rfl, rfl, rfl⟩ hB hr (by decide) hgd (by rfl) (takes_of rfl rfl rfl rfl) (by decide) (fun _ _ _ _ _ _ us ws h1 h2 => match us, ws, h1, h2 with | [], [_, _], _, _ => rfl)) (sk_cons (se_name 10) (sk_cons (se_name 3) sk_nil))) sa_nil))))))))
    (ss_cons (ss_if (SW.st (sw_or (st_C hB.symm (op_neDD hr.units) (se_B hB.symm (c_repr hgd hr.units) bt_repr T.z_repr (sa_cons (se_name 12) sa_nil)) (se_B hB.symm (c_repr hgd hr.units) bt_repr T.z_repr (sa_cons (se_lst (sa_cons (se_name 10) (sa_cons (se_name 11) (sa_cons (se_name 11) (sa_cons (se_name 10) (sa_cons (se_name 11) (sa_cons (se_name 11) sa_nil))))))) sa_nil))) (sw_or (st_C hB.symm (op_neDD hr.units) (se_call ((kn_nearest T).dn (n1 := 2) (ks := []) (idx := [0, 1]) ⟨rfl, rfl, rfl, rfl, rfl⟩ hB hr (by decide) hgd (by rfl) (takes_of rfl rfl rfl rfl) (by decide) (fun _ _ _ _ _ _ us ws h1 h2 => match us, ws, h1, h2 with | [_, _], [], _, _ => rfl)) (sa_cons (se_name 3) (sa_cons (se_name 11) sa_nil))) (se_name 11)) (sw_or1 (st_C hB.symm (op_neDD hr.units) (se_call ((kn_mark T).dn (n1 := 2) (ks := []) (idx := [0, 1]) ⟨rfl, rfl, rfl, rfl, rfl⟩ hB hr (by decide) hgd (by rfl) (takes_of rfl rfl rfl rfl) (by decide) (fun _ _ _ _ _ _ us ws h1 h2 => match us, ws, h1, h2 with | [_, _], [], _, _ => rfl)) (sa_cons (se_name 3) (sa_cons (se_name 11) sa_nil))) (se_name 10))))))
    (ss_one (ss_ret se_bl))
    ss_nil)
    (ss_cons (ss_if (st_C hB.symm (op_neDD hr.units) (se_B hB.symm (c_repr hgd hr.units) bt_repr T.z_repr (sa_cons (se_lst (sa_cons (se_call ((kn_is_point T).dn (n1 := 2) (ks := []) (idx := [0, 1]) ⟨rfl, rfl, rfl, rfl, rfl⟩ hB hr (by decide) hgd (by rfl) (takes_of rfl rfl rfl rfl) (by decide) (fun _ _ _ _ _ _ us ws h1 h2 => match us, ws, h1, h2 with | [_, _], [], _, _ => rfl)) (sa_cons (se_name 3) (sa_cons (se_name 11) sa_nil))) (sa_cons (se_callK0 ((kn_is_point T).dn (n1 := 0) (ks := ["number", "grid"]) (idx := [1, 0]) ⟨rfl, rfl, rfl, rfl, rfl⟩ hB hr (by decide) hgd (by rfl) (takes_of rfl rfl rfl rfl) (by decide) (fun _ _ _ _ _ _ us ws h1 h2 => match us, ws, h1, h2 with | [], [_, _], _, _ => rfl)) (sk_cons (se_name 9) (sk_cons (se_name 3) sk_nil))) sa_nil))) sa_nil)) (se_B hB.symm (c_repr hgd hr.units) bt_repr T.z_repr (sa_cons (se_lst (sa_cons se_bl (sa_cons (se_C hB.symm (op_eqDD hr.units) (se_name 9) (se_name 11)) sa_nil))) sa_nil)))
    (ss_one (ss_ret se_bl))
    ss_nil)
    (ss_cons (ss_if (SW.st (sw_and (st_C hB.symm op_isNotD (se_name 4) se_non) (sw_and1 (st_C hB.symm op_ltD (se_name 11) (se_name 4)))))
    (ss_one (ss_ret se_bl))
    ss_nil)
    (ss_one (ss_set (i := 4) sc_law.nd rfl (.inl rfl) (se_name 11))))))))))))))))
    (ss_cons (ss_set (i := 13) sc_law.nd rfl (.inl rfl) (se_O hB.symm op_addD (se_new (sn_lc rfl sc_law.nd (si_seq hB.symm (se_glob (by rfl) (T.c_RULES.glb rfl hB))) (blkOk_by (own := [("rule", 7)]) (by rfl)) (fun _ _ _ _ _ B1 h1 => (sg_name sc_law.nd (i := 7) rfl (by first | exact .inl rfl | exact .inr rfl))) (fun _ _ _ _ _ B1 h1 => sts_nil) (fun _ _ _ _ _ B1 h1 => (se_call ((kn_nearest T).dn (n1 := 2) (ks := []) (idx := [0, 1]) ⟨rfl, rfl, rfl, rfl, rfl⟩ (h1.trans hB) hr (by decide) hgd (by rfl) takes0 (by decide) (fun _ _ _ _ _ _ us ws h1 h2 => match us, ws, h1, h2 with | [_, _], [], _, _ => rfl)) (sa_cons (se_tup (sa_cons se_int (sa_cons se_int (sa_cons (se_name 7) sa_nil)))) (sa_cons se_int sa_nil)))) (by decide))) (se_new (sn_lc rfl sc_law.nd (si_seq hB.symm (se_glob (by rfl) (T.c_RULES.glb rfl hB))) (blkOk_by (own := [("rule", 7)]) (by rfl)) (fun _ _ _ _ _ B1 h1 => (sg_name sc_law.nd (i := 7) rfl (by first | exact .inl rfl | exact .inr rfl))) (fun _ _ _ _ _ B1 h1 => sts_nil) (fun _ _ _ _ _ B1 h1 => (se_call ((kn_nearest T).dn (n1 := 2) (ks := []) (idx := [0, 1]) ⟨rfl, rfl, rfl, rfl, rfl⟩ (h1.trans hB) hr (by decide) hgd (by rfl) takes0 (by decide) (fun _ _ _ _ _ _ us ws h1 h2 => match us, ws, h1, h2 with | [_, _], [], _, _ => rfl)) (sa_cons (se_tup (sa_cons se_int (sa_cons se_int (sa_cons (se_name 7) sa_nil)))) (sa_cons (se_neg (h1.trans hB).symm se_int) sa_nil)))) (by decide)))))
    (ss_one (ss_ret (se_C hB.symm (op_eqDD hr.units) (se_name 13) (se_lst (sa_cons se_int (sa_cons se_int (sa_cons se_int (sa_cons se_int (sa_cons se_int (sa_cons se_int (sa_cons (se_neg hB.symm se_int) (sa_cons se_int (sa_cons se_int (sa_cons (se_neg hB.symm se_int) (sa_cons se_int (sa_cons (se_neg hB.symm se_int) sa_nil))))))))))))))))))))
end
/-! ### the head -/
theorem all_mk {l : PySem.W.OpenLaw} {w : World} {K : PySem.W.Frag} {h : Heap} {mg : Str → Option Value} {fa : Addr} (X : K.In h) (G : h.Ns mainGlobals mg) (hfa : mg "law" = some (.ref fa))
    {f0 : Addr} {od0 an0 : Option Addr} {sl0 : Array (Option Value)} {oc0 kV0 dc0 pm0 cd0 ct0 : Value}
    (a0 : PySem.W.nsIn K mainGlobals "_law_pen" = some (some (.ref f0))) (l0 : K.lookup f0 = some ⟨oc0, od0, .func (PySem.W.fnOf "_law_pen" "_law_pen" (defArgs s__law_pen) (defBody s__law_pen) (defScope s__law_pen) .none kV0 dc0 pm0 an0 cd0 ct0), sl0⟩) (c0 : PySem.W.codeIn K cd0 "_law_pen" = true) (k0 : PySem.W.keepIn K (.ref f0) = true)
    {f1 : Addr} {od1 an1 : Option Addr} {sl1 : Array (Option Value)} {oc1 kV1 dc1 pm1 cd1 ct1 : Value}
    (a1 : PySem.W.nsIn K mainGlobals "_law_draw" = some (some (.ref f1))) (l1 : K.lookup f1 = some ⟨oc1, od1, .func (PySem.W.fnOf "_law_draw" "_law_draw" (defArgs s__law_draw) (defBody s__law_draw) (defScope s__law_draw) .none kV1 dc1 pm1 an1 cd1 ct1), sl1⟩) (c1 : PySem.W.codeIn K cd1 "_law_draw" = true) (k1 : PySem.W.keepIn K (.ref f1) = true)
    {f2 : Addr} {od2 an2 : Option Addr} {sl2 : Array (Option Value)} {oc2 kV2 dc2 pm2 cd2 ct2 : Value}
    (a2 : PySem.W.nsIn K mainGlobals "_law_pick" = some (some (.ref f2))) (l2 : K.lookup f2 = some ⟨oc2, od2, .func (PySem.W.fnOf "_law_pick" "_law_pick" (defArgs s__law_pick) (defBody s__law_pick) (defScope s__law_pick) .none kV2 dc2 pm2 an2 cd2 ct2), sl2⟩) (c2 : PySem.W.codeIn K cd2 "_law_pick" = true) (k2 : PySem.W.keepIn K (.ref f2) = true)
    {f3 : Addr} {od3 an3 : Option Addr} {sl3 : Array (Option Value)} {oc3 kV3 dc3 pm3 cd3 ct3 : Value}
    (a3 : PySem.W.nsIn K mainGlobals "_law_grid" = some (some (.ref f3))) (l3 : K.lookup f3 = some ⟨oc3, od3, .func (PySem.W.fnOf "_law_grid" "_law_grid" (defArgs s__law_grid) (defBody s__law_grid) (defScope s__law_grid) .none kV3 dc3 pm3 an3 cd3 ct3), sl3⟩) (c3 : PySem.W.codeIn K cd3 "_law_grid" = true) (k3 : PySem.W.keepIn K (.ref f3) = true)
    {f4 : Addr} {od4 an4 : Option Addr} {sl4 : Array (Option Value)} {oc4 kV4 dc4 pm4 cd4 ct4 : Value}
    (a4 : PySem.W.nsIn K mainGlobals "is_row" = some (some (.ref f4))) (l4 : K.lookup f4 = some ⟨oc4, od4, .func (PySem.W.fnOf "is_row" "is_row" (defArgs s_is_row) (defBody s_is_row) (defScope s_is_row) .none kV4 dc4 pm4 an4 cd4 ct4), sl4⟩) (c4 : PySem.W.codeIn K cd4 "is_row" = true) (k4 : PySem.W.keepIn K (.ref f4) = true)
    {f5 : Addr} {od5 an5 : Option Addr} {sl5 : Array (Option Value)} {oc5 kV5 dc5 pm5 cd5 ct5 : Value}
    (a5 : PySem.W.nsIn K mainGlobals "is_integer" = some (some (.ref f5))) (l5 : K.lookup f5 = some ⟨oc5, od5, .func (PySem.W.fnOf "is_integer" "is_integer" (defArgs s_is_integer) (defBody s_is_integer) (defScope s_is_integer) .none kV5 dc5 pm5 an5 cd5 ct5), sl5⟩) (c5 : PySem.W.codeIn K cd5 "is_integer" = true) (k5 : PySem.W.keepIn K (.ref f5) = true)
    {f6 : Addr} {od6 an6 : Option Addr} {sl6 : Array (Option Value)} {oc6 kV6 dc6 pm6 cd6 ct6 : Value}
    (a6 : PySem.W.nsIn K mainGlobals "is_within" = some (some (.ref f6))) (l6 : K.lookup f6 = some ⟨oc6, od6, .func (PySem.W.fnOf "is_within" "is_within" (defArgs s_is_within) (defBody s_is_within) (defScope s_is_within) .none kV6 dc6 pm6 an6 cd6 ct6), sl6⟩) (c6 : PySem.W.codeIn K cd6 "is_within" = true) (k6 : PySem.W.keepIn K (.ref f6) = true)
    {f7 : Addr} {od7 an7 : Option Addr} {sl7 : Array (Option Value)} {oc7 kV7 dc7 pm7 cd7 ct7 : Value}
    (a7 : PySem.W.nsIn K mainGlobals "is_rule" = some (some (.ref f7))) (l7 : K.lookup f7 = some ⟨oc7, od7, .func (PySem.W.fnOf "is_rule" "is_rule" (defArgs s_is_rule) (defBody s_is_rule) (defScope s_is_rule) .none kV7 dc7 pm7 an7 cd7 ct7), sl7⟩) (c7 : PySem.W.codeIn K cd7 "is_rule" = true) (k7 : PySem.W.keepIn K (.ref f7) = true)
    {f8 : Addr} {od8 an8 : Option Addr} {sl8 : Array (Option Value)} {oc8 kV8 dc8 pm8 cd8 ct8 : Value}
    (a8 : PySem.W.nsIn K mainGlobals "is_grid" = some (some (.ref f8))) (l8 : K.lookup f8 = some ⟨oc8, od8, .func (PySem.W.fnOf "is_grid" "is_grid" (defArgs s_is_grid) (defBody s_is_grid) (defScope s_is_grid) .none kV8 dc8 pm8 an8 cd8 ct8), sl8⟩) (c8 : PySem.W.codeIn K cd8 "is_grid" = true) (k8 : PySem.W.keepIn K (.ref f8) = true)
    {f9 : Addr} {od9 an9 : Option Addr} {sl9 : Array (Option Value)} {oc9 kV9 dc9 pm9 cd9 ct9 : Value}
    (a9 : PySem.W.nsIn K mainGlobals "_law_near" = some (some (.ref f9))) (l9 : K.lookup f9 = some ⟨oc9, od9, .func (PySem.W.fnOf "_law_near" "_law_near" (defArgs s__law_near) (defBody s__law_near) (defScope s__law_near) .none kV9 dc9 pm9 an9 cd9 ct9), sl9⟩) (c9 : PySem.W.codeIn K cd9 "_law_near" = true) (k9 : PySem.W.keepIn K (.ref f9) = true)
    {f10 : Addr} {od10 an10 : Option Addr} {sl10 : Array (Option Value)} {oc10 kV10 dc10 pm10 cd10 ct10 : Value}
    (a10 : PySem.W.nsIn K mainGlobals "_law_mark" = some (some (.ref f10))) (l10 : K.lookup f10 = some ⟨oc10, od10, .func (PySem.W.fnOf "_law_mark" "_law_mark" (defArgs s__law_mark) (defBody s__law_mark) (defScope s__law_mark) .none kV10 dc10 pm10 an10 cd10 ct10), sl10⟩) (c10 : PySem.W.codeIn K cd10 "_law_mark" = true) (k10 : PySem.W.keepIn K (.ref f10) = true)
    {f11 : Addr} {od11 an11 : Option Addr} {sl11 : Array (Option Value)} {oc11 kV11 dc11 pm11 cd11 ct11 : Value}
    (a11 : PySem.W.nsIn K mainGlobals "need_grid" = some (some (.ref f11))) (l11 : K.lookup f11 = some ⟨oc11, od11, .func (PySem.W.fnOf "need_grid" "need_grid" (defArgs s_need_grid) (defBody s_need_grid) (defScope s_need_grid) .none kV11 dc11 pm11 an11 cd11 ct11), sl11⟩) (c11 : PySem.W.codeIn K cd11 "need_grid" = true) (k11 : PySem.W.keepIn K (.ref f11) = true)
    {f12 : Addr} {od12 an12 : Option Addr} {sl12 : Array (Option Value)} {oc12 kV12 dc12 pm12 cd12 ct12 : Value}
    (a12 : PySem.W.nsIn K mainGlobals "need_number" = some (some (.ref f12))) (l12 : K.lookup f12 = some ⟨oc12, od12, .func (PySem.W.fnOf "need_number" "need_number" (defArgs s_need_number) (defBody s_need_number) (defScope s_need_number) .none kV12 dc12 pm12 an12 cd12 ct12), sl12⟩) (c12 : PySem.W.codeIn K cd12 "need_number" = true) (k12 : PySem.W.keepIn K (.ref f12) = true)
    {f13 : Addr} {od13 an13 : Option Addr} {sl13 : Array (Option Value)} {oc13 kV13 dc13 pm13 cd13 ct13 : Value}
    (a13 : PySem.W.nsIn K mainGlobals "mark_in" = some (some (.ref f13))) (l13 : K.lookup f13 = some ⟨oc13, od13, .func (PySem.W.fnOf "mark_in" "mark_in" (defArgs s_mark_in) (defBody s_mark_in) (defScope s_mark_in) .none kV13 dc13 pm13 an13 cd13 ct13), sl13⟩) (c13 : PySem.W.codeIn K cd13 "mark_in" = true) (k13 : PySem.W.keepIn K (.ref f13) = true)
    {f14 : Addr} {od14 an14 : Option Addr} {sl14 : Array (Option Value)} {oc14 kV14 dc14 pm14 cd14 ct14 : Value}
    (a14 : PySem.W.nsIn K mainGlobals "mark" = some (some (.ref f14))) (l14 : K.lookup f14 = some ⟨oc14, od14, .func (PySem.W.fnOf "mark" "mark" (defArgs s_mark) (defBody s_mark) (defScope s_mark) .none kV14 dc14 pm14 an14 cd14 ct14), sl14⟩) (c14 : PySem.W.codeIn K cd14 "mark" = true) (k14 : PySem.W.keepIn K (.ref f14) = true)
    {f15 : Addr} {od15 an15 : Option Addr} {sl15 : Array (Option Value)} {oc15 kV15 dc15 pm15 cd15 ct15 : Value}
    (a15 : PySem.W.nsIn K mainGlobals "point_in" = some (some (.ref f15))) (l15 : K.lookup f15 = some ⟨oc15, od15, .func (PySem.W.fnOf "point_in" "point_in" (defArgs s_point_in) (defBody s_point_in) (defScope s_point_in) .none kV15 dc15 pm15 an15 cd15 ct15), sl15⟩) (c15 : PySem.W.codeIn K cd15 "point_in" = true) (k15 : PySem.W.keepIn K (.ref f15) = true)
    {f16 : Addr} {od16 an16 : Option Addr} {sl16 : Array (Option Value)} {oc16 kV16 dc16 pm16 cd16 ct16 : Value}
    (a16 : PySem.W.nsIn K mainGlobals "nearest" = some (some (.ref f16))) (l16 : K.lookup f16 = some ⟨oc16, od16, .func (PySem.W.fnOf "nearest" "nearest" (defArgs s_nearest) (defBody s_nearest) (defScope s_nearest) .none kV16 dc16 pm16 an16 cd16 ct16), sl16⟩) (c16 : PySem.W.codeIn K cd16 "nearest" = true) (k16 : PySem.W.keepIn K (.ref f16) = true)
    {f17 : Addr} {od17 an17 : Option Addr} {sl17 : Array (Option Value)} {oc17 kV17 dc17 pm17 cd17 ct17 : Value}
    (a17 : PySem.W.nsIn K mainGlobals "point" = some (some (.ref f17))) (l17 : K.lookup f17 = some ⟨oc17, od17, .func (PySem.W.fnOf "point" "point" (defArgs s_point) (defBody s_point) (defScope s_point) .none kV17 dc17 pm17 an17 cd17 ct17), sl17⟩) (c17 : PySem.W.codeIn K cd17 "point" = true) (k17 : PySem.W.keepIn K (.ref f17) = true)
    {f18 : Addr} {od18 an18 : Option Addr} {sl18 : Array (Option Value)} {oc18 kV18 dc18 pm18 cd18 ct18 : Value}
    (a18 : PySem.W.nsIn K mainGlobals "is_point" = some (some (.ref f18))) (l18 : K.lookup f18 = some ⟨oc18, od18, .func (PySem.W.fnOf "is_point" "is_point" (defArgs s_is_point) (defBody s_is_point) (defScope s_is_point) .none kV18 dc18 pm18 an18 cd18 ct18), sl18⟩) (c18 : PySem.W.codeIn K cd18 "is_point" = true) (k18 : PySem.W.keepIn K (.ref f18) = true)
    {f19 : Addr} {od19 an19 : Option Addr} {sl19 : Array (Option Value)} {oc19 kV19 dc19 pm19 cd19 ct19 : Value}
    (a19 : PySem.W.nsIn K mainGlobals "law" = some (some (.ref f19))) (l19 : K.lookup f19 = some ⟨oc19, od19, .func (PySem.W.fnOf "law" "law" (defArgs s_law) (defBody s_law) (defScope s_law) .none kV19 dc19 pm19 an19 cd19 ct19), sl19⟩) (c19 : PySem.W.codeIn K cd19 "law" = true) (k19 : PySem.W.keepIn K (.ref f19) = true)
    (z0 : PySem.W.nsIn K mainGlobals "abs" = some none)
    (z1 : PySem.W.nsIn K mainGlobals "bool" = some none)
    (z2 : PySem.W.nsIn K mainGlobals "divmod" = some none)
    (z3 : PySem.W.nsIn K mainGlobals "int" = some none)
    (z4 : PySem.W.nsIn K mainGlobals "isinstance" = some none)
    (z5 : PySem.W.nsIn K mainGlobals "len" = some none)
    (z6 : PySem.W.nsIn K mainGlobals "list" = some none)
    (z7 : PySem.W.nsIn K mainGlobals "max" = some none)
    (z8 : PySem.W.nsIn K mainGlobals "min" = some none)
    (z9 : PySem.W.nsIn K mainGlobals "range" = some none)
    (z10 : PySem.W.nsIn K mainGlobals "repr" = some none)
    (z11 : PySem.W.nsIn K mainGlobals "sorted" = some none)
    (z12 : PySem.W.nsIn K mainGlobals "str" = some none)
    (z13 : PySem.W.nsIn K mainGlobals "tuple" = some none)
    {tc0 : Tok} (v0 : PySem.W.nsIn K mainGlobals "MOST_STEP" = some (some (.int 999 tc0)))
    {b1 : Addr} {n1 : Nat} {t1_0 t1_1 t1_2 t1_3 t1_4 t1_5 : Tok} (v1 : PySem.W.nsIn K mainGlobals "RULES" = some (some (.ref b1))) (w1 : K.lookup b1 = some ⟨.type "tuple", .none, .seq #[.str "floor" t1_0, .str "ceil" t1_1, .str "up" t1_2, .str "down" t1_3, .str "even" t1_4, .str "odd" t1_5] n1, #[]⟩)
    : ∃ fd : FuncData, (∀ (s : Shared) (v : Value), BindsTo s fd ⟨[v], []⟩ [("script", v)]) ∧ ∀ base : Heap, K.In base → base.Ns mainGlobals mg → FnG l.prog w K mg base 6 fa fd ["script"] (spF K false 1 F_law) := by
  have e := hfa.symm.trans (PySem.W.mg_of X G a19)
  cases e
  have T : Txt K mg := ⟨⟨⟨_, _, fun_mk (st := s__law_pen) l0 c0 k0, PySem.W.mg_of X G a0⟩⟩,
    ⟨⟨_, _, fun_mk (st := s__law_draw) l1 c1 k1, PySem.W.mg_of X G a1⟩⟩,
    ⟨⟨_, _, fun_mk (st := s__law_pick) l2 c2 k2, PySem.W.mg_of X G a2⟩⟩,
    ⟨⟨_, _, fun_mk (st := s__law_grid) l3 c3 k3, PySem.W.mg_of X G a3⟩⟩,
    ⟨⟨_, _, fun_mk (st := s_is_row) l4 c4 k4, PySem.W.mg_of X G a4⟩⟩,
    ⟨⟨_, _, fun_mk (st := s_is_integer) l5 c5 k5, PySem.W.mg_of X G a5⟩⟩,
    ⟨⟨_, _, fun_mk (st := s_is_within) l6 c6 k6, PySem.W.mg_of X G a6⟩⟩,
    ⟨⟨_, _, fun_mk (st := s_is_rule) l7 c7 k7, PySem.W.mg_of X G a7⟩⟩,
    ⟨⟨_, _, fun_mk (st := s_is_grid) l8 c8 k8, PySem.W.mg_of X G a8⟩⟩,
    ⟨⟨_, _, fun_mk (st := s__law_near) l9 c9 k9, PySem.W.mg_of X G a9⟩⟩,
    ⟨⟨_, _, fun_mk (st := s__law_mark) l10 c10 k10, PySem.W.mg_of X G a10⟩⟩,
    ⟨⟨_, _, fun_mk (st := s_need_grid) l11 c11 k11, PySem.W.mg_of X G a11⟩⟩,
    ⟨⟨_, _, fun_mk (st := s_need_number) l12 c12 k12, PySem.W.mg_of X G a12⟩⟩,
    ⟨⟨_, _, fun_mk (st := s_mark_in) l13 c13 k13, PySem.W.mg_of X G a13⟩⟩,
    ⟨⟨_, _, fun_mk (st := s_mark) l14 c14 k14, PySem.W.mg_of X G a14⟩⟩,
    ⟨⟨_, _, fun_mk (st := s_point_in) l15 c15 k15, PySem.W.mg_of X G a15⟩⟩,
    ⟨⟨_, _, fun_mk (st := s_nearest) l16 c16 k16, PySem.W.mg_of X G a16⟩⟩,
    ⟨⟨_, _, fun_mk (st := s_point) l17 c17 k17, PySem.W.mg_of X G a17⟩⟩,
    ⟨⟨_, _, fun_mk (st := s_is_point) l18 c18 k18, PySem.W.mg_of X G a18⟩⟩,
    ⟨⟨_, _, fun_mk (st := s_law) l19 c19 k19, PySem.W.mg_of X G a19⟩⟩,
    PySem.W.mg_none_of X G z0,
    PySem.W.mg_none_of X G z1,
    PySem.W.mg_none_of X G z2,
    PySem.W.mg_none_of X G z3,
    PySem.W.mg_none_of X G z4,
    PySem.W.mg_none_of X G z5,
    PySem.W.mg_none_of X G z6,
    PySem.W.mg_none_of X G z7,
    PySem.W.mg_none_of X G z8,
    PySem.W.mg_none_of X G z9,
    PySem.W.mg_none_of X G z10,
    PySem.W.mg_none_of X G z11,
    PySem.W.mg_none_of X G z12,
    PySem.W.mg_none_of X G z13,
    Cn.int (PySem.W.mg_of X G v0),
    Cn.strs (xs := ["floor", "ceil", "up", "down", "even", "odd"]) (PySem.W.mg_of X G v1) w1 (Nat.le_of_ble_eq_true rfl) (.cons ⟨_, rfl⟩ (.cons ⟨_, rfl⟩ (.cons ⟨_, rfl⟩ (.cons ⟨_, rfl⟩ (.cons ⟨_, rfl⟩ (.cons ⟨_, rfl⟩ (.nil)))))))⟩
  refine ⟨PySem.W.fnOf "law" "law" (defArgs s_law) (defBody s_law) (defScope s_law) .none kV19 dc19 pm19 an19 cd19 ct19, fun s v => .of_eq rfl, fun base _ _ => ?_⟩
  obtain ⟨f, fd, F, H, hm⟩ := (kn_law (P := l.prog) (w := w) (base := base) T).ex
  cases hfa.symm.trans hm
  have e2 := (fun_mk (st := s_law) l19 c19 k19)
  exact (Fun.same F e2) ▸ H
end Fx

set_option Elab.async false
set_option linter.all false
set_option maxRecDepth 100000
namespace Fx
open PySem L2 PyProof.Rows
/-! ### the draws -/
def Pen (b : Nat) (P : List D) : Prop := ∃ (cs : List Int) (t p : Int), P = [.lst (cs.map D.int), .int t, .int p] ∧ cs.length ≤ 63 ∧ 0 ≤ t ∧ t ≤ b
theorem Pen.mono {b c : Nat} {P : List D} (h : Pen b P) (e : b ≤ c) : Pen c P := by
  obtain ⟨cs, t, p, h1, h2, h3, h4⟩ := h
  exact ⟨cs, t, p, h1, h2, h3, by omega⟩
theorem log_lt {m : Int} (h : 0 < m) (h2 : m < 2 ^ 64) : m.natAbs.log2 < 9000 := by
  rcases Nat.eq_zero_or_pos m.natAbs with h0 | h0
  · rw [h0]
    decide
  · refine (Nat.log2_lt (by omega)).mpr ?_
    refine Nat.lt_of_lt_of_le (m := 2 ^ 64) (by omega) (Nat.pow_le_pow_right (by decide) (by decide))
theorem start2 {as : List D} {d : D} : startS 7 true [.lst as, d] = [.io as, .va d, .un, .un, .un, .un, .un] := rfl
theorem ne_nilL (cs : List Int) : neD (.lst (cs.map D.int)) (.lst []) = some (.bl (!decide (cs = []))) := ne_ints cs []
theorem at_mod {cs : List Int} {t : Int} (h : cs ≠ []) (ht : 0 ≤ t) : ∃ c, atD (cs.map D.int) (t % ((cs.map D.int).length : Int)) = some (.int c) := by
  have hl : 0 < cs.length := List.length_pos_iff.mpr h
  rw [List.length_map]
  have h1 : 0 ≤ t % (cs.length : Int) := Int.emod_nonneg _ (by omega)
  have h2 : t % (cs.length : Int) < cs.length := Int.emod_lt_of_pos _ (by omega)
  have h3 : (t % (cs.length : Int)).toNat < cs.length := by omega
  refine ⟨cs[(t % (cs.length : Int)).toNat], ev_int h1 ?_⟩
  rw [List.getElem?_map, List.getElem?_eq_getElem h3]
  rfl
theorem pow_ok {i : Int} {k : Nat} (hk : k ≤ 1000000) (h0 : 0 ≤ i) (h : i < 2 ^ 64) : powD (.int i) (.int (k : Int)) = some (.int (i ^ k)) := by
  rw [ev_powI ⟨by omega, by omega, by omega⟩]
  rw [Int.toNat_natCast]
theorem draw {b : Nat} {P : List D} {m : Int} (h : Pen b P) (hb : b < 2 ^ 20) (hm : 0 < m) (hm2 : m < 2 ^ 64) : ∃ r P', F__law_draw [.lst P, .int m] = .ret (.int r) P' ∧ 0 ≤ r ∧ r < m ∧ Pen (b + 1) P' := by
  obtain ⟨cs, t, p, rfl, hl, ht, htb⟩ := h
  have hlg := log_lt hm hm2
  have em : ∀ i : Int, modD (.int i) (.int m) = some (.int (i % m)) := fun i => ev_modI hm
  have ed : ∀ i : Int, fdivD (.int i) (.int m) = some (.int (i / m)) := fun i => ev_fdivI hm hlg
  by_cases hp : 0 < p
  · refine ⟨p % m, [.lst (cs.map D.int), .int t, .int (p / m)], ?_, Int.emod_nonneg _ (by omega), Int.emod_lt_of_pos _ hm, cs, t, p / m, rfl, hl, ht, by omega⟩
    show outF true (g__law_draw _) = _
    rw [start2]
    simp only [g__law_draw, ev_name, ev_c, ev_op2, ev_op1, ev_toR1, ev_toRL1, ev_nil, ev_cons, ev_opn, ev_opnN, ev_tup, ev_lst, ev_lstN, ev_new, ev_tst, ev_notT, ev_andT, ev_orT, ev_notF, ev_andF, ev_orF, ev_ifF, ev_yes, ev_iter, ev_rng1, ev_rng2, ev_rngW, ev_noP, ev_sl, ev_part, ev_next, ev_noG, ev_seq, ev_drop, ev_ret, ev_retN, ev_if, ev_asg, ev_setA, ev_nilA, ev_consA, ev_seqT, ev_seqL, ev_setN, ev_ok, ev_ioV, ev_ioU, ev_ioW, ev_owV, ev_owU, ev_own, ev_put, ev_ixOwn, ev_lenOwn, ev_setIx, ev_comp, ev_compL0, ev_compL1, ev_okC, ev_wipe1, ev_wipe0, ev_rest1, ev_rest0, ev_call, ev_callN, ev_ofr, ev_ofn, ev_ofnN, ev_io, ev_addI, ev_subI, ev_negI, ev_cmpI, ev_eqI, ev_neI, ev_eqS, ev_neS, ev_intI, ev_intB, ev_absI, ev_lenL, ev_lenT, ev_ixL, ev_ixT, ev_at0, ev_at1, ev_at2, ev_i30, ev_i31, ev_i32, ev_pk1, ev_pk2, ev_pk3, ev_pk4, ev_pkw1, ev_pkw2, ev_pkv2, ev_isI, ev_isN, ev_isB, ev_inI, ev_inN, ev_inB, ev_listT, ev_listL, ev_tupT, ev_tupL, R.bind_ok, R.out_ok, Option.bind_some, List.getElem?_cons_succ, List.getElem?_cons_zero, List.set_cons_succ, List.set_cons_zero, List.length_cons, List.length_nil, Nat.reduceAdd, Nat.reduceEqDiff, List.getD_cons_succ, List.getD_cons_zero, decide_true, decide_false, Bool.and_true, Bool.and_self, and_self, true_and, List.all_cons, List.all_nil, Bool.not_true, Bool.not_false, if_true, Bool.true_eq_false, Bool.false_eq_true, if_false, em, ed, decide_eq_true hp]
    rfl
  · have hp' : decide (0 < p) = false := decide_eq_false hp
    have m1 : mulD (.int 73609) (.int t) = some (.int (73609 * t)) := ev_mulS (.inl ⟨by decide, by decide⟩)
    have m2 : mulD (.int 2) (.int t) = some (.int (2 * t)) := ev_mulS (.inl ⟨by decide, by decide⟩)
    have m3 : mulD (.int (73609 * t)) (.int t) = some (.int (73609 * t * t)) := ev_mulS (.inr ⟨by omega, by omega⟩)
    have e1 : ∀ i : Int, modD (.int i) (.int 2147483563) = some (.int (i % 2147483563)) := fun i => ev_modI (by decide)
    have e2 : ∀ i : Int, modD (.int i) (.int 2147483629) = some (.int (i % 2147483629)) := fun i => ev_modI (by decide)
    have e3 : ∀ i : Int, modD (.int i) (.int 2147483587) = some (.int (i % 2147483587)) := fun i => ev_modI (by decide)
    have e4 : ∀ i : Int, fdivD (.int i) (.int 32) = some (.int (i / 32)) := fun i => ev_fdivI (by decide) (by decide)
    have p1 : ∀ c : Int, powD (.int (c % 2147483563 + 73609 * t + 4421)) (.int 5) = some (.int ((c % 2147483563 + 73609 * t + 4421) ^ 5)) := fun c => pow_ok (k := 5) (by decide) (by omega) (by omega)
    have p18 : powD (.int 10) (.int 18) = some (.int 1000000000000000000) := rfl
    have m4 : ∀ x : Int, mulD (.int (x % 2147483629)) (.int (2 * t + 683)) = some (.int (x % 2147483629 * (2 * t + 683))) := fun x => ev_mulS (.inl ⟨by omega, by omega⟩)
    have p2 : ∀ x : Int, powD (.int (x % 2147483629 * (2 * t + 683) + 73609 * t * t + 4421)) (.int 3) = some (.int ((x % 2147483629 * (2 * t + 683) + 73609 * t * t + 4421) ^ 3)) := fun x => by
      have h1 : 0 ≤ x % 2147483629 * (2 * t + 683) := Int.mul_nonneg (by omega) (by omega)
      have h2 : 0 ≤ 73609 * t * t := Int.mul_nonneg (by omega) ht
      have h3 : x % 2147483629 * (2 * t + 683) ≤ 2147483629 * 2097835 := Int.mul_le_mul (by omega) (by omega) (by omega) (by omega)
      have h4 : 73609 * t * t ≤ 77184630784 * 1048576 := Int.mul_le_mul (by omega) (by omega) ht (by omega)
      exact pow_ok (k := 3) (by decide) (by omega) (by omega)
    by_cases hc : cs = []
    · subst hc
      have ht' : decide (t < ((0 : Nat) : Int)) = false := decide_eq_false (by omega)
      have n0 : neD (.lst []) (.lst []) = some (.bl false) := ne_nilL []
      refine ⟨?x1 % m, [.lst ([].map D.int), .int (t + 1), .int p], ?e, Int.emod_nonneg _ (by omega), Int.emod_lt_of_pos _ hm, [], t + 1, p, rfl, hl, by omega, by omega⟩
      case e =>
        show outF true (g__law_draw _) = _
        rw [start2]
        simp only [g__law_draw, ev_name, ev_c, ev_op2, ev_op1, ev_toR1, ev_toRL1, ev_nil, ev_cons, ev_opn, ev_opnN, ev_tup, ev_lst, ev_lstN, ev_new, ev_tst, ev_notT, ev_andT, ev_orT, ev_notF, ev_andF, ev_orF, ev_ifF, ev_yes, ev_iter, ev_rng1, ev_rng2, ev_rngW, ev_noP, ev_sl, ev_part, ev_next, ev_noG, ev_seq, ev_drop, ev_ret, ev_retN, ev_if, ev_asg, ev_setA, ev_nilA, ev_consA, ev_seqT, ev_seqL, ev_setN, ev_ok, ev_ioV, ev_ioU, ev_ioW, ev_owV, ev_owU, ev_own, ev_put, ev_ixOwn, ev_lenOwn, ev_setIx, ev_comp, ev_compL0, ev_compL1, ev_okC, ev_wipe1, ev_wipe0, ev_rest1, ev_rest0, ev_call, ev_callN, ev_ofr, ev_ofn, ev_ofnN, ev_io, ev_addI, ev_subI, ev_negI, ev_cmpI, ev_eqI, ev_neI, ev_eqS, ev_neS, ev_intI, ev_intB, ev_absI, ev_lenL, ev_lenT, ev_ixL, ev_ixT, ev_at0, ev_at1, ev_at2, ev_i30, ev_i31, ev_i32, ev_pk1, ev_pk2, ev_pk3, ev_pk4, ev_pkw1, ev_pkw2, ev_pkv2, ev_isI, ev_isN, ev_isB, ev_inI, ev_inN, ev_inB, ev_listT, ev_listL, ev_tupT, ev_tupL, R.bind_ok, R.out_ok, Option.bind_some, List.getElem?_cons_succ, List.getElem?_cons_zero, List.set_cons_succ, List.set_cons_zero, List.length_cons, List.length_nil, Nat.reduceAdd, Nat.reduceEqDiff, List.getD_cons_succ, List.getD_cons_zero, decide_true, decide_false, Bool.and_true, Bool.and_self, and_self, true_and, List.all_cons, List.all_nil, Bool.not_true, Bool.not_false, if_true, Bool.true_eq_false, Bool.false_eq_true, if_false, em, ed, hp', m1, m2, m3, e1, e2, e3, e4, p1, p18, m4, p2, ht', n0, List.map_nil, Nat.zero_le]
        rfl
    · obtain ⟨c, ec⟩ := at_mod hc ht
      have n0 : neD (.lst (cs.map D.int)) (.lst []) = some (.bl true) := by
        rw [ne_nilL, decide_eq_false hc]
        rfl
      have m5 : ∀ x : Int, mulD (.int 2) (.int x) = some (.int (2 * x)) := fun x => ev_mulS (.inl ⟨by decide, by decide⟩)
      have el : ∀ i : Int, modD (.int i) (.int ((cs.map D.int).length : Int)) = some (.int (i % ((cs.map D.int).length : Int))) := fun i => ev_modI (by
        rw [List.length_map]
        have := List.length_pos_iff.mpr hc
        omega)
      cases h1 : decide (t < ((cs.map D.int).length : Int)) && decide ((1000000000000000000 : Int) ≤ (if c < 0 then -c else c)) with
      | true =>
        rw [Bool.and_eq_true] at h1
        refine ⟨?x2 % m, [.lst (cs.map D.int), .int (t + 1), .int (?x2 / m)], ?e, Int.emod_nonneg _ (by omega), Int.emod_lt_of_pos _ hm, cs, t + 1, _, rfl, hl, by omega, by omega⟩
        case e =>
          show outF true (g__law_draw _) = _
          rw [start2]
          simp only [g__law_draw, ev_name, ev_c, ev_op2, ev_op1, ev_toR1, ev_toRL1, ev_nil, ev_cons, ev_opn, ev_opnN, ev_tup, ev_lst, ev_lstN, ev_new, ev_tst, ev_notT, ev_andT, ev_orT, ev_notF, ev_andF, ev_orF, ev_ifF, ev_yes, ev_iter, ev_rng1, ev_rng2, ev_rngW, ev_noP, ev_sl, ev_part, ev_next, ev_noG, ev_seq, ev_drop, ev_ret, ev_retN, ev_if, ev_asg, ev_setA, ev_nilA, ev_consA, ev_seqT, ev_seqL, ev_setN, ev_ok, ev_ioV, ev_ioU, ev_ioW, ev_owV, ev_owU, ev_own, ev_put, ev_ixOwn, ev_lenOwn, ev_setIx, ev_comp, ev_compL0, ev_compL1, ev_okC, ev_wipe1, ev_wipe0, ev_rest1, ev_rest0, ev_call, ev_callN, ev_ofr, ev_ofn, ev_ofnN, ev_io, ev_addI, ev_subI, ev_negI, ev_cmpI, ev_eqI, ev_neI, ev_eqS, ev_neS, ev_intI, ev_intB, ev_absI, ev_lenL, ev_lenT, ev_ixL, ev_ixT, ev_at0, ev_at1, ev_at2, ev_i30, ev_i31, ev_i32, ev_pk1, ev_pk2, ev_pk3, ev_pk4, ev_pkw1, ev_pkw2, ev_pkv2, ev_isI, ev_isN, ev_isB, ev_inI, ev_inN, ev_inB, ev_listT, ev_listL, ev_tupT, ev_tupL, R.bind_ok, R.out_ok, Option.bind_some, List.getElem?_cons_succ, List.getElem?_cons_zero, List.set_cons_succ, List.set_cons_zero, List.length_cons, List.length_nil, Nat.reduceAdd, Nat.reduceEqDiff, List.getD_cons_succ, List.getD_cons_zero, decide_true, decide_false, Bool.and_true, Bool.and_self, and_self, true_and, List.all_cons, List.all_nil, Bool.not_true, Bool.not_false, if_true, Bool.true_eq_false, Bool.false_eq_true, if_false, em, ed, hp', m1, m5, e1, e2, e3, e4, p18, n0, ec, el, h1.1, h1.2, Nat.zero_le]
          rfl
      | false =>
        refine ⟨?x3 % m, [.lst (cs.map D.int), .int (t + 1), .int p], ?e, Int.emod_nonneg _ (by omega), Int.emod_lt_of_pos _ hm, cs, t + 1, p, rfl, hl, by omega, by omega⟩
        case e =>
          show outF true (g__law_draw _) = _
          rw [start2]
          rw [Bool.and_eq_false_iff] at h1
          by_cases h2 : decide (t < ((cs.map D.int).length : Int)) = true
          · have h3 := h1.resolve_left (by rw [h2]; decide)
            simp only [g__law_draw, ev_name, ev_c, ev_op2, ev_op1, ev_toR1, ev_toRL1, ev_nil, ev_cons, ev_opn, ev_opnN, ev_tup, ev_lst, ev_lstN, ev_new, ev_tst, ev_notT, ev_andT, ev_orT, ev_notF, ev_andF, ev_orF, ev_ifF, ev_yes, ev_iter, ev_rng1, ev_rng2, ev_rngW, ev_noP, ev_sl, ev_part, ev_next, ev_noG, ev_seq, ev_drop, ev_ret, ev_retN, ev_if, ev_asg, ev_setA, ev_nilA, ev_consA, ev_seqT, ev_seqL, ev_setN, ev_ok, ev_ioV, ev_ioU, ev_ioW, ev_owV, ev_owU, ev_own, ev_put, ev_ixOwn, ev_lenOwn, ev_setIx, ev_comp, ev_compL0, ev_compL1, ev_okC, ev_wipe1, ev_wipe0, ev_rest1, ev_rest0, ev_call, ev_callN, ev_ofr, ev_ofn, ev_ofnN, ev_io, ev_addI, ev_subI, ev_negI, ev_cmpI, ev_eqI, ev_neI, ev_eqS, ev_neS, ev_intI, ev_intB, ev_absI, ev_lenL, ev_lenT, ev_ixL, ev_ixT, ev_at0, ev_at1, ev_at2, ev_i30, ev_i31, ev_i32, ev_pk1, ev_pk2, ev_pk3, ev_pk4, ev_pkw1, ev_pkw2, ev_pkv2, ev_isI, ev_isN, ev_isB, ev_inI, ev_inN, ev_inB, ev_listT, ev_listL, ev_tupT, ev_tupL, R.bind_ok, R.out_ok, Option.bind_some, List.getElem?_cons_succ, List.getElem?_cons_zero, List.set_cons_succ, List.set_cons_zero, List.length_cons, List.length_nil, Nat.reduceAdd, Nat.reduceEqDiff, List.getD_cons_succ, List.getD_cons_zero, decide_true, decide_false, Bool.and_true, Bool.and_self, and_self, true_and, List.all_cons, List.all_nil, Bool.not_true, Bool.not_false, if_true, Bool.true_eq_false, Bool.false_eq_true, if_false, em, ed, hp', m1, m2, m3, e1, e2, e3, e4, p1, p18, m4, p2, n0, ec, el, h2, h3, Nat.zero_le]
            rfl
          · have h3 : decide (t < ((cs.map D.int).length : Int)) = false := by
              cases h : decide (t < ((cs.map D.int).length : Int)) with
              | true => exact absurd h h2
              | false => rfl
            simp only [g__law_draw, ev_name, ev_c, ev_op2, ev_op1, ev_toR1, ev_toRL1, ev_nil, ev_cons, ev_opn, ev_opnN, ev_tup, ev_lst, ev_lstN, ev_new, ev_tst, ev_notT, ev_andT, ev_orT, ev_notF, ev_andF, ev_orF, ev_ifF, ev_yes, ev_iter, ev_rng1, ev_rng2, ev_rngW, ev_noP, ev_sl, ev_part, ev_next, ev_noG, ev_seq, ev_drop, ev_ret, ev_retN, ev_if, ev_asg, ev_setA, ev_nilA, ev_consA, ev_seqT, ev_seqL, ev_setN, ev_ok, ev_ioV, ev_ioU, ev_ioW, ev_owV, ev_owU, ev_own, ev_put, ev_ixOwn, ev_lenOwn, ev_setIx, ev_comp, ev_compL0, ev_compL1, ev_okC, ev_wipe1, ev_wipe0, ev_rest1, ev_rest0, ev_call, ev_callN, ev_ofr, ev_ofn, ev_ofnN, ev_io, ev_addI, ev_subI, ev_negI, ev_cmpI, ev_eqI, ev_neI, ev_eqS, ev_neS, ev_intI, ev_intB, ev_absI, ev_lenL, ev_lenT, ev_ixL, ev_ixT, ev_at0, ev_at1, ev_at2, ev_i30, ev_i31, ev_i32, ev_pk1, ev_pk2, ev_pk3, ev_pk4, ev_pkw1, ev_pkw2, ev_pkv2, ev_isI, ev_isN, ev_isB, ev_inI, ev_inN, ev_inB, ev_listT, ev_listL, ev_tupT, ev_tupL, R.bind_ok, R.out_ok, Option.bind_some, List.getElem?_cons_succ, List.getElem?_cons_zero, List.set_cons_succ, List.set_cons_zero, List.length_cons, List.length_nil, Nat.reduceAdd, Nat.reduceEqDiff, List.getD_cons_succ, List.getD_cons_zero, decide_true, decide_false, Bool.and_true, Bool.and_self, and_self, true_and, List.all_cons, List.all_nil, Bool.not_true, Bool.not_false, if_true, Bool.true_eq_false, Bool.false_eq_true, if_false, em, ed, hp', m1, m2, m3, e1, e2, e3, e4, p1, p18, m4, p2, n0, ec, el, h3, Nat.zero_le]
            rfl
end Fx

set_option Elab.async false
set_option linter.all false
set_option maxRecDepth 100000
set_option exponentiation.threshold 1000
namespace Fx
open PySem L2 PyProof.Rows
theorem rs_floor_floor : decide (("floor" : Str) = "floor") = true := by decide
theorem rs_floor_ceil : decide (("floor" : Str) = "ceil") = false := by decide
theorem rs_floor_up : decide (("floor" : Str) = "up") = false := by decide
theorem rs_floor_down : decide (("floor" : Str) = "down") = false := by decide
theorem rs_floor_even : decide (("floor" : Str) = "even") = false := by decide
theorem rs_floor_odd : decide (("floor" : Str) = "odd") = false := by decide
theorem rs_ceil_floor : decide (("ceil" : Str) = "floor") = false := by decide
theorem rs_ceil_ceil : decide (("ceil" : Str) = "ceil") = true := by decide
theorem rs_ceil_up : decide (("ceil" : Str) = "up") = false := by decide
theorem rs_ceil_down : decide (("ceil" : Str) = "down") = false := by decide
theorem rs_ceil_even : decide (("ceil" : Str) = "even") = false := by decide
theorem rs_ceil_odd : decide (("ceil" : Str) = "odd") = false := by decide
theorem rs_up_floor : decide (("up" : Str) = "floor") = false := by decide
theorem rs_up_ceil : decide (("up" : Str) = "ceil") = false := by decide
theorem rs_up_up : decide (("up" : Str) = "up") = true := by decide
theorem rs_up_down : decide (("up" : Str) = "down") = false := by decide
theorem rs_up_even : decide (("up" : Str) = "even") = false := by decide
theorem rs_up_odd : decide (("up" : Str) = "odd") = false := by decide
theorem rs_down_floor : decide (("down" : Str) = "floor") = false := by decide
theorem rs_down_ceil : decide (("down" : Str) = "ceil") = false := by decide
theorem rs_down_up : decide (("down" : Str) = "up") = false := by decide
theorem rs_down_down : decide (("down" : Str) = "down") = true := by decide
theorem rs_down_even : decide (("down" : Str) = "even") = false := by decide
theorem rs_down_odd : decide (("down" : Str) = "odd") = false := by decide
theorem rs_even_floor : decide (("even" : Str) = "floor") = false := by decide
theorem rs_even_ceil : decide (("even" : Str) = "ceil") = false := by decide
theorem rs_even_up : decide (("even" : Str) = "up") = false := by decide
theorem rs_even_down : decide (("even" : Str) = "down") = false := by decide
theorem rs_even_even : decide (("even" : Str) = "even") = true := by decide
theorem rs_even_odd : decide (("even" : Str) = "odd") = false := by decide
theorem rs_odd_floor : decide (("odd" : Str) = "floor") = false := by decide
theorem rs_odd_ceil : decide (("odd" : Str) = "ceil") = false := by decide
theorem rs_odd_up : decide (("odd" : Str) = "up") = false := by decide
theorem rs_odd_down : decide (("odd" : Str) = "down") = false := by decide
theorem rs_odd_even : decide (("odd" : Str) = "even") = false := by decide
theorem rs_odd_odd : decide (("odd" : Str) = "odd") = true := by decide
theorem sl63 {n : Nat} (h : n ≤ 63) : n ≤ sizeLine := by
  rw [sizeLine_eq]
  omega
theorem pick {b : Nat} {P xs : List D} (h : Pen b P) (hb : b < 2 ^ 20) (h0 : xs ≠ []) (hl : xs.length < 1000000) : ∃ d P', F__law_pick [.lst P, .lst xs] = .ret d P' ∧ d ∈ xs ∧ Pen (b + 1) P' := by
  have hp : 0 < xs.length := List.length_pos_iff.mpr h0
  obtain ⟨r, P', e, r0, r1, hP⟩ := draw (m := (xs.length : Int)) h hb (by omega) (by omega)
  have hr : r.toNat < xs.length := by omega
  have ea : atD xs r = some xs[r.toNat] := ev_int r0 (List.getElem?_eq_getElem hr)
  refine ⟨xs[r.toNat], P', ?_, List.getElem_mem hr, hP⟩
  show outF true (g__law_pick [.io P, .va (.lst xs)]) = _
  simp only [g__law_pick, ev_name, ev_c, ev_op2, ev_op1, ev_toR1, ev_toRL1, ev_nil, ev_cons, ev_opn, ev_opnN, ev_tup, ev_lst, ev_lstN, ev_new, ev_tst, ev_notT, ev_andT, ev_orT, ev_notF, ev_andF, ev_orF, ev_ifF, ev_yes, ev_iter, ev_rng1, ev_rng2, ev_rngW, ev_noP, ev_sl, ev_part, ev_next, ev_noG, ev_seq, ev_drop, ev_ret, ev_retN, ev_if, ev_asg, ev_setA, ev_nilA, ev_consA, ev_seqT, ev_seqL, ev_setN, ev_ok, ev_ioV, ev_ioU, ev_ioW, ev_owV, ev_owU, ev_own, ev_put, ev_ixOwn, ev_lenOwn, ev_setIx, ev_comp, ev_compL0, ev_compL1, ev_okC, ev_wipe1, ev_wipe0, ev_rest1, ev_rest0, ev_call, ev_callN, ev_ofr, ev_ofn, ev_ofnN, ev_io, ev_addI, ev_subI, ev_negI, ev_cmpI, ev_eqI, ev_neI, ev_eqS, ev_neS, ev_intI, ev_intB, ev_absI, ev_lenL, ev_lenT, ev_ixL, ev_ixT, ev_at0, ev_at1, ev_at2, ev_i30, ev_i31, ev_i32, ev_pk1, ev_pk2, ev_pk3, ev_pk4, ev_pkw1, ev_pkw2, ev_pkv2, ev_isI, ev_isN, ev_isB, ev_inI, ev_inN, ev_inB, ev_listT, ev_listL, ev_tupT, ev_tupL, R.bind_ok, R.out_ok, Option.bind_some, List.getElem?_cons_succ, List.getElem?_cons_zero, List.set_cons_succ, List.set_cons_zero, List.length_cons, List.length_nil, Nat.reduceAdd, Nat.reduceEqDiff, List.getD_cons_succ, List.getD_cons_zero, decide_true, decide_false, Bool.and_true, Bool.and_self, and_self, true_and, List.all_cons, List.all_nil, Bool.not_true, Bool.not_false, if_true, Bool.true_eq_false, Bool.false_eq_true, if_false, e, ea]
  rfl
/-! ### the grids -/
inductive Rl where
  | floor | ceil | up | down | even | odd
def Rl.s : Rl → Str
  | .floor => "floor" | .ceil => "ceil" | .up => "up" | .down => "down" | .even => "even" | .odd => "odd"
def gridD (s o : Int) (r : Rl) : D := .tup [.int s, .int o, .str r.s]
def gridL (s o : Int) (r : Rl) : D := .lst [.int s, .int o, .str r.s]
theorem sz3 : (3 ≤ sizeLine) = True := by
  rw [sizeLine_eq]
  decide
theorem sz10 : (10 ≤ sizeLine) = True := by
  rw [sizeLine_eq]
  decide
theorem sz8 : (8 ≤ sizeLine) = True := by
  rw [sizeLine_eq]
  decide
theorem grid {b : Nat} {P : List D} (h : Pen b P) (hb : b < 2 ^ 19) : ∃ s o r P', F__law_grid [.lst P] = .ret (gridD s o r) P' ∧ 1 ≤ s ∧ s ≤ 999 ∧ 0 ≤ o ∧ o < s ∧ Pen (b + 5) P' := by
  obtain ⟨r1, P1, e1, a1, b1, h1⟩ := draw (m := 999) h (by omega) (by decide) (by decide)
  obtain ⟨d2, P2, e2, m2, h2⟩ := pick (xs := [.int 1, .int 2, .int 2, .int 3, .int 4, .int 4, .int 5, .int 6, .int 999, .int (1 + r1)]) h1 (by omega) (by simp) (by simp)
  obtain ⟨s, rfl, s1, s2⟩ : ∃ s, d2 = .int s ∧ 1 ≤ s ∧ s ≤ 999 := by
    simp only [List.mem_cons, List.not_mem_nil, or_false] at m2
    rcases m2 with rfl | rfl | rfl | rfl | rfl | rfl | rfl | rfl | rfl | rfl <;> exact ⟨_, rfl, by omega, by omega⟩
  obtain ⟨r3, P3, e3, a3, b3, h3⟩ := draw (m := s) h2 (by omega) (by omega) (by omega)
  obtain ⟨d4, P4, e4, m4, h4⟩ := pick (xs := [.int 0, .int (s - 1), .int r3]) h3 (by omega) (by simp) (by simp)
  obtain ⟨o, rfl, o1, o2⟩ : ∃ o, d4 = .int o ∧ 0 ≤ o ∧ o < s := by
    simp only [List.mem_cons, List.not_mem_nil, or_false] at m4
    rcases m4 with rfl | rfl | rfl <;> exact ⟨_, rfl, by omega, by omega⟩
  obtain ⟨d5, P5, e5, m5, h5⟩ := pick (xs := [.str "floor", .str "ceil", .str "up", .str "down", .str "even", .str "odd", .str "even", .str "odd"]) h4 (by omega) (by simp) (by simp)
  obtain ⟨r, rfl⟩ : ∃ r : Rl, d5 = .str r.s := by
    simp only [List.mem_cons, List.not_mem_nil, or_false] at m5
    rcases m5 with rfl | rfl | rfl | rfl | rfl | rfl | rfl | rfl
    · exact ⟨.floor, rfl⟩
    · exact ⟨.ceil, rfl⟩
    · exact ⟨.up, rfl⟩
    · exact ⟨.down, rfl⟩
    · exact ⟨.even, rfl⟩
    · exact ⟨.odd, rfl⟩
    · exact ⟨.even, rfl⟩
    · exact ⟨.odd, rfl⟩
  refine ⟨s, o, r, P5, ?_, s1, s2, o1, o2, h5⟩
  show outF true (g__law_grid [.io P, .un]) = _
  simp only [g__law_grid, ev_name, ev_c, ev_op2, ev_op1, ev_toR1, ev_toRL1, ev_nil, ev_cons, ev_opn, ev_opnN, ev_tup, ev_lst, ev_lstN, ev_new, ev_tst, ev_notT, ev_andT, ev_orT, ev_notF, ev_andF, ev_orF, ev_ifF, ev_yes, ev_iter, ev_rng1, ev_rng2, ev_rngW, ev_noP, ev_sl, ev_part, ev_next, ev_noG, ev_seq, ev_drop, ev_ret, ev_retN, ev_if, ev_asg, ev_setA, ev_nilA, ev_consA, ev_seqT, ev_seqL, ev_setN, ev_ok, ev_ioV, ev_ioU, ev_ioW, ev_owV, ev_owU, ev_own, ev_put, ev_ixOwn, ev_lenOwn, ev_setIx, ev_comp, ev_compL0, ev_compL1, ev_okC, ev_wipe1, ev_wipe0, ev_rest1, ev_rest0, ev_call, ev_callN, ev_ofr, ev_ofn, ev_ofnN, ev_io, ev_addI, ev_subI, ev_negI, ev_cmpI, ev_eqI, ev_neI, ev_eqS, ev_neS, ev_intI, ev_intB, ev_absI, ev_lenL, ev_lenT, ev_ixL, ev_ixT, ev_at0, ev_at1, ev_at2, ev_i30, ev_i31, ev_i32, ev_pk1, ev_pk2, ev_pk3, ev_pk4, ev_pkw1, ev_pkw2, ev_pkv2, ev_isI, ev_isN, ev_isB, ev_inI, ev_inN, ev_inB, ev_listT, ev_listL, ev_tupT, ev_tupL, R.bind_ok, R.out_ok, Option.bind_some, List.getElem?_cons_succ, List.getElem?_cons_zero, List.set_cons_succ, List.set_cons_zero, List.length_cons, List.length_nil, Nat.reduceAdd, Nat.reduceEqDiff, List.getD_cons_succ, List.getD_cons_zero, decide_true, decide_false, Bool.and_true, Bool.and_self, and_self, true_and, List.all_cons, List.all_nil, Bool.not_true, Bool.not_false, if_true, Bool.true_eq_false, Bool.false_eq_true, if_false, e1, e2, e3, e4, e5, sz3, sz8, sz10]
  rfl
/-! ### where a number is rounded to -/
def mkIn (s o n : Int) : Rl → Int
  | .floor => (n - o) / s
  | .ceil => if (n - o) % s = 0 then (n - o) / s else (n - o) / s + 1
  | r => if (n - o) % s = 0 then (n - o) / s else if 2 * ((n - o) % s) ≠ s then (n - o) / s + (if s < 2 * ((n - o) % s) then 1 else 0) else match r with
    | .up => (n - o) / s + 1
    | .down => (n - o) / s
    | .even => (n - o) / s + (n - o) / s % 2
    | _ => (n - o) / s + 1 - (n - o) / s % 2
theorem mark_in {s o n : Int} {r : Rl} (h1 : 1 ≤ s) (h2 : s ≤ 999) : F_mark_in [gridD s o r, .int n] = .ret (.int (mkIn s o n r)) [] := by
  have dm : divmodD [.int (n - o), .int s] = some (.tup [.int ((n - o) / s), .int ((n - o) % s)]) := if_pos ⟨by omega, by omega⟩
  have mm : mulD (.int 2) (.int ((n - o) % s)) = some (.int (2 * ((n - o) % s))) := ev_mulS (.inl ⟨by decide, by decide⟩)
  have m2 : ∀ x : Int, modD (.int x) (.int 2) = some (.int (x % 2)) := fun x => ev_modI (by decide)
  show outF false (g_mark_in [.va (gridD s o r), .va (.int n), .un, .un, .un, .un, .un]) = _
  unfold gridD mkIn
  by_cases c1 : (n - o) % s = 0
  · cases r <;> simp only [g_mark_in, ev_name, ev_c, ev_op2, ev_op1, ev_toR1, ev_toRL1, ev_nil, ev_cons, ev_opn, ev_opnN, ev_tup, ev_lst, ev_lstN, ev_new, ev_tst, ev_notT, ev_andT, ev_orT, ev_notF, ev_andF, ev_orF, ev_ifF, ev_yes, ev_iter, ev_rng1, ev_rng2, ev_rngW, ev_noP, ev_sl, ev_part, ev_next, ev_noG, ev_seq, ev_drop, ev_ret, ev_retN, ev_if, ev_asg, ev_setA, ev_nilA, ev_consA, ev_seqT, ev_seqL, ev_setN, ev_ok, ev_ioV, ev_ioU, ev_ioW, ev_owV, ev_owU, ev_own, ev_put, ev_ixOwn, ev_lenOwn, ev_setIx, ev_comp, ev_compL0, ev_compL1, ev_okC, ev_wipe1, ev_wipe0, ev_rest1, ev_rest0, ev_call, ev_callN, ev_ofr, ev_ofn, ev_ofnN, ev_io, ev_addI, ev_subI, ev_negI, ev_cmpI, ev_eqI, ev_neI, ev_eqS, ev_neS, ev_intI, ev_intB, ev_absI, ev_lenL, ev_lenT, ev_ixL, ev_ixT, ev_at0, ev_at1, ev_at2, ev_i30, ev_i31, ev_i32, ev_pk1, ev_pk2, ev_pk3, ev_pk4, ev_pkw1, ev_pkw2, ev_pkv2, ev_isI, ev_isN, ev_isB, ev_inI, ev_inN, ev_inB, ev_listT, ev_listL, ev_tupT, ev_tupL, R.bind_ok, R.out_ok, Option.bind_some, List.getElem?_cons_succ, List.getElem?_cons_zero, List.set_cons_succ, List.set_cons_zero, List.length_cons, List.length_nil, Nat.reduceAdd, Nat.reduceEqDiff, List.getD_cons_succ, List.getD_cons_zero, decide_true, decide_false, Bool.and_true, Bool.and_self, and_self, true_and, List.all_cons, List.all_nil, Bool.not_true, Bool.not_false, if_true, Bool.true_eq_false, Bool.false_eq_true, if_false, rs_floor_floor, rs_floor_ceil, rs_floor_up, rs_floor_down, rs_floor_even, rs_floor_odd, rs_ceil_floor, rs_ceil_ceil, rs_ceil_up, rs_ceil_down, rs_ceil_even, rs_ceil_odd, rs_up_floor, rs_up_ceil, rs_up_up, rs_up_down, rs_up_even, rs_up_odd, rs_down_floor, rs_down_ceil, rs_down_up, rs_down_down, rs_down_even, rs_down_odd, rs_even_floor, rs_even_ceil, rs_even_up, rs_even_down, rs_even_even, rs_even_odd, rs_odd_floor, rs_odd_ceil, rs_odd_up, rs_odd_down, rs_odd_even, rs_odd_odd, dm, mm, m2, c1, Rl.s, decide_true] <;> rfl
  · by_cases c2 : 2 * ((n - o) % s) = s
    · cases r <;> simp only [g_mark_in, ev_name, ev_c, ev_op2, ev_op1, ev_toR1, ev_toRL1, ev_nil, ev_cons, ev_opn, ev_opnN, ev_tup, ev_lst, ev_lstN, ev_new, ev_tst, ev_notT, ev_andT, ev_orT, ev_notF, ev_andF, ev_orF, ev_ifF, ev_yes, ev_iter, ev_rng1, ev_rng2, ev_rngW, ev_noP, ev_sl, ev_part, ev_next, ev_noG, ev_seq, ev_drop, ev_ret, ev_retN, ev_if, ev_asg, ev_setA, ev_nilA, ev_consA, ev_seqT, ev_seqL, ev_setN, ev_ok, ev_ioV, ev_ioU, ev_ioW, ev_owV, ev_owU, ev_own, ev_put, ev_ixOwn, ev_lenOwn, ev_setIx, ev_comp, ev_compL0, ev_compL1, ev_okC, ev_wipe1, ev_wipe0, ev_rest1, ev_rest0, ev_call, ev_callN, ev_ofr, ev_ofn, ev_ofnN, ev_io, ev_addI, ev_subI, ev_negI, ev_cmpI, ev_eqI, ev_neI, ev_eqS, ev_neS, ev_intI, ev_intB, ev_absI, ev_lenL, ev_lenT, ev_ixL, ev_ixT, ev_at0, ev_at1, ev_at2, ev_i30, ev_i31, ev_i32, ev_pk1, ev_pk2, ev_pk3, ev_pk4, ev_pkw1, ev_pkw2, ev_pkv2, ev_isI, ev_isN, ev_isB, ev_inI, ev_inN, ev_inB, ev_listT, ev_listL, ev_tupT, ev_tupL, R.bind_ok, R.out_ok, Option.bind_some, List.getElem?_cons_succ, List.getElem?_cons_zero, List.set_cons_succ, List.set_cons_zero, List.length_cons, List.length_nil, Nat.reduceAdd, Nat.reduceEqDiff, List.getD_cons_succ, List.getD_cons_zero, decide_true, decide_false, Bool.and_true, Bool.and_self, and_self, true_and, List.all_cons, List.all_nil, Bool.not_true, Bool.not_false, if_true, Bool.true_eq_false, Bool.false_eq_true, if_false, rs_floor_floor, rs_floor_ceil, rs_floor_up, rs_floor_down, rs_floor_even, rs_floor_odd, rs_ceil_floor, rs_ceil_ceil, rs_ceil_up, rs_ceil_down, rs_ceil_even, rs_ceil_odd, rs_up_floor, rs_up_ceil, rs_up_up, rs_up_down, rs_up_even, rs_up_odd, rs_down_floor, rs_down_ceil, rs_down_up, rs_down_down, rs_down_even, rs_down_odd, rs_even_floor, rs_even_ceil, rs_even_up, rs_even_down, rs_even_even, rs_even_odd, rs_odd_floor, rs_odd_ceil, rs_odd_up, rs_odd_down, rs_odd_even, rs_odd_odd, dm, mm, m2, c1, c2, Rl.s, decide_true, decide_false, Bool.not_true, Bool.not_false, ne_eq, not_true, not_false_iff] <;> rfl
    · have c3 : (if decide (s < 2 * ((n - o) % s)) = true then (1 : Int) else 0) = if s < 2 * ((n - o) % s) then 1 else 0 := by
        by_cases c4 : s < 2 * ((n - o) % s)
        · rw [if_pos c4, if_pos (decide_eq_true c4)]
        · rw [if_neg c4, if_neg (by rw [decide_eq_false c4]; exact Bool.false_ne_true)]
      cases r <;> simp only [g_mark_in, ev_name, ev_c, ev_op2, ev_op1, ev_toR1, ev_toRL1, ev_nil, ev_cons, ev_opn, ev_opnN, ev_tup, ev_lst, ev_lstN, ev_new, ev_tst, ev_notT, ev_andT, ev_orT, ev_notF, ev_andF, ev_orF, ev_ifF, ev_yes, ev_iter, ev_rng1, ev_rng2, ev_rngW, ev_noP, ev_sl, ev_part, ev_next, ev_noG, ev_seq, ev_drop, ev_ret, ev_retN, ev_if, ev_asg, ev_setA, ev_nilA, ev_consA, ev_seqT, ev_seqL, ev_setN, ev_ok, ev_ioV, ev_ioU, ev_ioW, ev_owV, ev_owU, ev_own, ev_put, ev_ixOwn, ev_lenOwn, ev_setIx, ev_comp, ev_compL0, ev_compL1, ev_okC, ev_wipe1, ev_wipe0, ev_rest1, ev_rest0, ev_call, ev_callN, ev_ofr, ev_ofn, ev_ofnN, ev_io, ev_addI, ev_subI, ev_negI, ev_cmpI, ev_eqI, ev_neI, ev_eqS, ev_neS, ev_intI, ev_intB, ev_absI, ev_lenL, ev_lenT, ev_ixL, ev_ixT, ev_at0, ev_at1, ev_at2, ev_i30, ev_i31, ev_i32, ev_pk1, ev_pk2, ev_pk3, ev_pk4, ev_pkw1, ev_pkw2, ev_pkv2, ev_isI, ev_isN, ev_isB, ev_inI, ev_inN, ev_inB, ev_listT, ev_listL, ev_tupT, ev_tupL, R.bind_ok, R.out_ok, Option.bind_some, List.getElem?_cons_succ, List.getElem?_cons_zero, List.set_cons_succ, List.set_cons_zero, List.length_cons, List.length_nil, Nat.reduceAdd, Nat.reduceEqDiff, List.getD_cons_succ, List.getD_cons_zero, decide_true, decide_false, Bool.and_true, Bool.and_self, and_self, true_and, List.all_cons, List.all_nil, Bool.not_true, Bool.not_false, if_true, Bool.true_eq_false, Bool.false_eq_true, if_false, rs_floor_floor, rs_floor_ceil, rs_floor_up, rs_floor_down, rs_floor_even, rs_floor_odd, rs_ceil_floor, rs_ceil_ceil, rs_ceil_up, rs_ceil_down, rs_ceil_even, rs_ceil_odd, rs_up_floor, rs_up_ceil, rs_up_up, rs_up_down, rs_up_even, rs_up_odd, rs_down_floor, rs_down_ceil, rs_down_up, rs_down_down, rs_down_even, rs_down_odd, rs_even_floor, rs_even_ceil, rs_even_up, rs_even_down, rs_even_even, rs_even_odd, rs_odd_floor, rs_odd_ceil, rs_odd_up, rs_odd_down, rs_odd_even, rs_odd_odd, dm, mm, m2, c1, c2, c3, Rl.s, decide_true, decide_false, Bool.not_true, Bool.not_false, ne_eq, not_true, not_false_iff] <;> rfl
theorem sane (x : Int) : mkIn 1 0 x .up = x := by
  unfold mkIn
  simp only [Int.sub_zero, Int.emod_one, Int.ediv_one, if_true]
/-! ### a grid is one -/
theorem integer (v : Int) : F_is_integer [.int v] = .ret (.bl true) [] := rfl
theorem within {v a b : Int} (h1 : a ≤ v) (h2 : v ≤ b) : F_is_within [.int v, .int a, .int b] = .ret (.bl true) [] := by
  show outF false (g_is_within [.va (.int v), .va (.int a), .va (.int b)]) = _
  simp only [g_is_within, ev_name, ev_c, ev_op2, ev_op1, ev_toR1, ev_toRL1, ev_nil, ev_cons, ev_opn, ev_opnN, ev_tup, ev_lst, ev_lstN, ev_new, ev_tst, ev_notT, ev_andT, ev_orT, ev_notF, ev_andF, ev_orF, ev_ifF, ev_yes, ev_iter, ev_rng1, ev_rng2, ev_rngW, ev_noP, ev_sl, ev_part, ev_next, ev_noG, ev_seq, ev_drop, ev_ret, ev_retN, ev_if, ev_asg, ev_setA, ev_nilA, ev_consA, ev_seqT, ev_seqL, ev_setN, ev_ok, ev_ioV, ev_ioU, ev_ioW, ev_owV, ev_owU, ev_own, ev_put, ev_ixOwn, ev_lenOwn, ev_setIx, ev_comp, ev_compL0, ev_compL1, ev_okC, ev_wipe1, ev_wipe0, ev_rest1, ev_rest0, ev_call, ev_callN, ev_ofr, ev_ofn, ev_ofnN, ev_io, ev_addI, ev_subI, ev_negI, ev_cmpI, ev_eqI, ev_neI, ev_eqS, ev_neS, ev_intI, ev_intB, ev_absI, ev_lenL, ev_lenT, ev_ixL, ev_ixT, ev_at0, ev_at1, ev_at2, ev_i30, ev_i31, ev_i32, ev_pk1, ev_pk2, ev_pk3, ev_pk4, ev_pkw1, ev_pkw2, ev_pkv2, ev_isI, ev_isN, ev_isB, ev_inI, ev_inN, ev_inB, ev_listT, ev_listL, ev_tupT, ev_tupL, R.bind_ok, R.out_ok, Option.bind_some, List.getElem?_cons_succ, List.getElem?_cons_zero, List.set_cons_succ, List.set_cons_zero, List.length_cons, List.length_nil, Nat.reduceAdd, Nat.reduceEqDiff, List.getD_cons_succ, List.getD_cons_zero, decide_true, decide_false, Bool.and_true, Bool.and_self, and_self, true_and, List.all_cons, List.all_nil, Bool.not_true, Bool.not_false, if_true, Bool.true_eq_false, Bool.false_eq_true, if_false, integer, decide_eq_true h1, decide_eq_true h2, Bool.not_true]
  rfl
theorem rule (r : Rl) : F_is_rule [.str r.s] = .ret (.bl true) [] := by
  cases r <;> rfl
theorem isRowT {xs : List D} (h : xs.length ≤ 3) : F_is_row [.tup xs, .int 3] = .ret (.bl true) [] := by
  have e : isiD [.tup xs, .tup [.ty "list", .ty "tuple"]] = some (.bl true) := rfl
  have h2 : decide ((xs.length : Int) ≤ 3) = true := decide_eq_true (by omega)
  have s2 : (2 ≤ sizeLine) = True := by rw [sizeLine_eq]; decide
  show outF false (g_is_row [.va (.tup xs), .va (.int 3)]) = _
  simp only [g_is_row, ev_name, ev_c, ev_op2, ev_op1, ev_toR1, ev_toRL1, ev_nil, ev_cons, ev_opn, ev_opnN, ev_tup, ev_lst, ev_lstN, ev_new, ev_tst, ev_notT, ev_andT, ev_orT, ev_notF, ev_andF, ev_orF, ev_ifF, ev_yes, ev_iter, ev_rng1, ev_rng2, ev_rngW, ev_noP, ev_sl, ev_part, ev_next, ev_noG, ev_seq, ev_drop, ev_ret, ev_retN, ev_if, ev_asg, ev_setA, ev_nilA, ev_consA, ev_seqT, ev_seqL, ev_setN, ev_ok, ev_ioV, ev_ioU, ev_ioW, ev_owV, ev_owU, ev_own, ev_put, ev_ixOwn, ev_lenOwn, ev_setIx, ev_comp, ev_compL0, ev_compL1, ev_okC, ev_wipe1, ev_wipe0, ev_rest1, ev_rest0, ev_call, ev_callN, ev_ofr, ev_ofn, ev_ofnN, ev_io, ev_addI, ev_subI, ev_negI, ev_cmpI, ev_eqI, ev_neI, ev_eqS, ev_neS, ev_intI, ev_intB, ev_absI, ev_lenL, ev_lenT, ev_ixL, ev_ixT, ev_at0, ev_at1, ev_at2, ev_i30, ev_i31, ev_i32, ev_pk1, ev_pk2, ev_pk3, ev_pk4, ev_pkw1, ev_pkw2, ev_pkv2, ev_isI, ev_isN, ev_isB, ev_inI, ev_inN, ev_inB, ev_listT, ev_listL, ev_tupT, ev_tupL, R.bind_ok, R.out_ok, Option.bind_some, List.getElem?_cons_succ, List.getElem?_cons_zero, List.set_cons_succ, List.set_cons_zero, List.length_cons, List.length_nil, Nat.reduceAdd, Nat.reduceEqDiff, List.getD_cons_succ, List.getD_cons_zero, decide_true, decide_false, Bool.and_true, Bool.and_self, and_self, true_and, List.all_cons, List.all_nil, Bool.not_true, Bool.not_false, if_true, Bool.true_eq_false, Bool.false_eq_true, if_false, e, h2, s2]
  rfl
theorem isRowL {xs : List D} (h : xs.length ≤ 3) : F_is_row [.lst xs, .int 3] = .ret (.bl true) [] := by
  have e : isiD [.lst xs, .tup [.ty "list", .ty "tuple"]] = some (.bl true) := rfl
  have h2 : decide ((xs.length : Int) ≤ 3) = true := decide_eq_true (by omega)
  have s2 : (2 ≤ sizeLine) = True := by rw [sizeLine_eq]; decide
  show outF false (g_is_row [.va (.lst xs), .va (.int 3)]) = _
  simp only [g_is_row, ev_name, ev_c, ev_op2, ev_op1, ev_toR1, ev_toRL1, ev_nil, ev_cons, ev_opn, ev_opnN, ev_tup, ev_lst, ev_lstN, ev_new, ev_tst, ev_notT, ev_andT, ev_orT, ev_notF, ev_andF, ev_orF, ev_ifF, ev_yes, ev_iter, ev_rng1, ev_rng2, ev_rngW, ev_noP, ev_sl, ev_part, ev_next, ev_noG, ev_seq, ev_drop, ev_ret, ev_retN, ev_if, ev_asg, ev_setA, ev_nilA, ev_consA, ev_seqT, ev_seqL, ev_setN, ev_ok, ev_ioV, ev_ioU, ev_ioW, ev_owV, ev_owU, ev_own, ev_put, ev_ixOwn, ev_lenOwn, ev_setIx, ev_comp, ev_compL0, ev_compL1, ev_okC, ev_wipe1, ev_wipe0, ev_rest1, ev_rest0, ev_call, ev_callN, ev_ofr, ev_ofn, ev_ofnN, ev_io, ev_addI, ev_subI, ev_negI, ev_cmpI, ev_eqI, ev_neI, ev_eqS, ev_neS, ev_intI, ev_intB, ev_absI, ev_lenL, ev_lenT, ev_ixL, ev_ixT, ev_at0, ev_at1, ev_at2, ev_i30, ev_i31, ev_i32, ev_pk1, ev_pk2, ev_pk3, ev_pk4, ev_pkw1, ev_pkw2, ev_pkv2, ev_isI, ev_isN, ev_isB, ev_inI, ev_inN, ev_inB, ev_listT, ev_listL, ev_tupT, ev_tupL, R.bind_ok, R.out_ok, Option.bind_some, List.getElem?_cons_succ, List.getElem?_cons_zero, List.set_cons_succ, List.set_cons_zero, List.length_cons, List.length_nil, Nat.reduceAdd, Nat.reduceEqDiff, List.getD_cons_succ, List.getD_cons_zero, decide_true, decide_false, Bool.and_true, Bool.and_self, and_self, true_and, List.all_cons, List.all_nil, Bool.not_true, Bool.not_false, if_true, Bool.true_eq_false, Bool.false_eq_true, if_false, e, h2, s2]
  rfl
section
variable {s o : Int} {r : Rl} (h1 : 1 ≤ s) (h2 : s ≤ 999) (h3 : 0 ≤ o) (h4 : o < s)
include h1 h2 h3 h4
theorem isGridT : F_is_grid [gridD s o r] = .ret (.bl true) [] := by
  show outF false (g_is_grid [.va (.tup [.int s, .int o, .str r.s])]) = _
  have e : ((3 : Nat) : Int) = 3 := rfl
  simp only [g_is_grid, ev_name, ev_c, ev_op2, ev_op1, ev_toR1, ev_toRL1, ev_nil, ev_cons, ev_opn, ev_opnN, ev_tup, ev_lst, ev_lstN, ev_new, ev_tst, ev_notT, ev_andT, ev_orT, ev_notF, ev_andF, ev_orF, ev_ifF, ev_yes, ev_iter, ev_rng1, ev_rng2, ev_rngW, ev_noP, ev_sl, ev_part, ev_next, ev_noG, ev_seq, ev_drop, ev_ret, ev_retN, ev_if, ev_asg, ev_setA, ev_nilA, ev_consA, ev_seqT, ev_seqL, ev_setN, ev_ok, ev_ioV, ev_ioU, ev_ioW, ev_owV, ev_owU, ev_own, ev_put, ev_ixOwn, ev_lenOwn, ev_setIx, ev_comp, ev_compL0, ev_compL1, ev_okC, ev_wipe1, ev_wipe0, ev_rest1, ev_rest0, ev_call, ev_callN, ev_ofr, ev_ofn, ev_ofnN, ev_io, ev_addI, ev_subI, ev_negI, ev_cmpI, ev_eqI, ev_neI, ev_eqS, ev_neS, ev_intI, ev_intB, ev_absI, ev_lenL, ev_lenT, ev_ixL, ev_ixT, ev_at0, ev_at1, ev_at2, ev_i30, ev_i31, ev_i32, ev_pk1, ev_pk2, ev_pk3, ev_pk4, ev_pkw1, ev_pkw2, ev_pkv2, ev_isI, ev_isN, ev_isB, ev_inI, ev_inN, ev_inB, ev_listT, ev_listL, ev_tupT, ev_tupL, R.bind_ok, R.out_ok, Option.bind_some, List.getElem?_cons_succ, List.getElem?_cons_zero, List.set_cons_succ, List.set_cons_zero, List.length_cons, List.length_nil, Nat.reduceAdd, Nat.reduceEqDiff, List.getD_cons_succ, List.getD_cons_zero, decide_true, decide_false, Bool.and_true, Bool.and_self, and_self, true_and, List.all_cons, List.all_nil, Bool.not_true, Bool.not_false, if_true, Bool.true_eq_false, Bool.false_eq_true, if_false, isRowT (xs := [.int s, .int o, .str r.s]) (by simp), within h1 h2, within h3 (show o ≤ s - 1 by omega), rule, e, decide_true, Bool.not_true, Bool.not_false]
  rfl
theorem isGridL : F_is_grid [gridL s o r] = .ret (.bl true) [] := by
  show outF false (g_is_grid [.va (.lst [.int s, .int o, .str r.s])]) = _
  have e : ((3 : Nat) : Int) = 3 := rfl
  simp only [g_is_grid, ev_name, ev_c, ev_op2, ev_op1, ev_toR1, ev_toRL1, ev_nil, ev_cons, ev_opn, ev_opnN, ev_tup, ev_lst, ev_lstN, ev_new, ev_tst, ev_notT, ev_andT, ev_orT, ev_notF, ev_andF, ev_orF, ev_ifF, ev_yes, ev_iter, ev_rng1, ev_rng2, ev_rngW, ev_noP, ev_sl, ev_part, ev_next, ev_noG, ev_seq, ev_drop, ev_ret, ev_retN, ev_if, ev_asg, ev_setA, ev_nilA, ev_consA, ev_seqT, ev_seqL, ev_setN, ev_ok, ev_ioV, ev_ioU, ev_ioW, ev_owV, ev_owU, ev_own, ev_put, ev_ixOwn, ev_lenOwn, ev_setIx, ev_comp, ev_compL0, ev_compL1, ev_okC, ev_wipe1, ev_wipe0, ev_rest1, ev_rest0, ev_call, ev_callN, ev_ofr, ev_ofn, ev_ofnN, ev_io, ev_addI, ev_subI, ev_negI, ev_cmpI, ev_eqI, ev_neI, ev_eqS, ev_neS, ev_intI, ev_intB, ev_absI, ev_lenL, ev_lenT, ev_ixL, ev_ixT, ev_at0, ev_at1, ev_at2, ev_i30, ev_i31, ev_i32, ev_pk1, ev_pk2, ev_pk3, ev_pk4, ev_pkw1, ev_pkw2, ev_pkv2, ev_isI, ev_isN, ev_isB, ev_inI, ev_inN, ev_inB, ev_listT, ev_listL, ev_tupT, ev_tupL, R.bind_ok, R.out_ok, Option.bind_some, List.getElem?_cons_succ, List.getElem?_cons_zero, List.set_cons_succ, List.set_cons_zero, List.length_cons, List.length_nil, Nat.reduceAdd, Nat.reduceEqDiff, List.getD_cons_succ, List.getD_cons_zero, decide_true, decide_false, Bool.and_true, Bool.and_self, and_self, true_and, List.all_cons, List.all_nil, Bool.not_true, Bool.not_false, if_true, Bool.true_eq_false, Bool.false_eq_true, if_false, isRowL (xs := [.int s, .int o, .str r.s]) (by simp), within h1 h2, within h3 (show o ≤ s - 1 by omega), rule, e, decide_true, Bool.not_true, Bool.not_false]
  rfl
theorem needT : F_need_grid [gridD s o r] = .ret (gridD s o r) [] := by
  show outF false (g_need_grid [.va (gridD s o r)]) = _
  simp only [g_need_grid, ev_name, ev_c, ev_op2, ev_op1, ev_toR1, ev_toRL1, ev_nil, ev_cons, ev_opn, ev_opnN, ev_tup, ev_lst, ev_lstN, ev_new, ev_tst, ev_notT, ev_andT, ev_orT, ev_notF, ev_andF, ev_orF, ev_ifF, ev_yes, ev_iter, ev_rng1, ev_rng2, ev_rngW, ev_noP, ev_sl, ev_part, ev_next, ev_noG, ev_seq, ev_drop, ev_ret, ev_retN, ev_if, ev_asg, ev_setA, ev_nilA, ev_consA, ev_seqT, ev_seqL, ev_setN, ev_ok, ev_ioV, ev_ioU, ev_ioW, ev_owV, ev_owU, ev_own, ev_put, ev_ixOwn, ev_lenOwn, ev_setIx, ev_comp, ev_compL0, ev_compL1, ev_okC, ev_wipe1, ev_wipe0, ev_rest1, ev_rest0, ev_call, ev_callN, ev_ofr, ev_ofn, ev_ofnN, ev_io, ev_addI, ev_subI, ev_negI, ev_cmpI, ev_eqI, ev_neI, ev_eqS, ev_neS, ev_intI, ev_intB, ev_absI, ev_lenL, ev_lenT, ev_ixL, ev_ixT, ev_at0, ev_at1, ev_at2, ev_i30, ev_i31, ev_i32, ev_pk1, ev_pk2, ev_pk3, ev_pk4, ev_pkw1, ev_pkw2, ev_pkv2, ev_isI, ev_isN, ev_isB, ev_inI, ev_inN, ev_inB, ev_listT, ev_listL, ev_tupT, ev_tupL, R.bind_ok, R.out_ok, Option.bind_some, List.getElem?_cons_succ, List.getElem?_cons_zero, List.set_cons_succ, List.set_cons_zero, List.length_cons, List.length_nil, Nat.reduceAdd, Nat.reduceEqDiff, List.getD_cons_succ, List.getD_cons_zero, decide_true, decide_false, Bool.and_true, Bool.and_self, and_self, true_and, List.all_cons, List.all_nil, Bool.not_true, Bool.not_false, if_true, Bool.true_eq_false, Bool.false_eq_true, if_false, isGridT h1 h2 h3 h4, Bool.not_true]
  rfl
theorem needL : F_need_grid [gridL s o r] = .ret (gridD s o r) [] := by
  show outF false (g_need_grid [.va (gridL s o r)]) = _
  simp only [g_need_grid, ev_name, ev_c, ev_op2, ev_op1, ev_toR1, ev_toRL1, ev_nil, ev_cons, ev_opn, ev_opnN, ev_tup, ev_lst, ev_lstN, ev_new, ev_tst, ev_notT, ev_andT, ev_orT, ev_notF, ev_andF, ev_orF, ev_ifF, ev_yes, ev_iter, ev_rng1, ev_rng2, ev_rngW, ev_noP, ev_sl, ev_part, ev_next, ev_noG, ev_seq, ev_drop, ev_ret, ev_retN, ev_if, ev_asg, ev_setA, ev_nilA, ev_consA, ev_seqT, ev_seqL, ev_setN, ev_ok, ev_ioV, ev_ioU, ev_ioW, ev_owV, ev_owU, ev_own, ev_put, ev_ixOwn, ev_lenOwn, ev_setIx, ev_comp, ev_compL0, ev_compL1, ev_okC, ev_wipe1, ev_wipe0, ev_rest1, ev_rest0, ev_call, ev_callN, ev_ofr, ev_ofn, ev_ofnN, ev_io, ev_addI, ev_subI, ev_negI, ev_cmpI, ev_eqI, ev_neI, ev_eqS, ev_neS, ev_intI, ev_intB, ev_absI, ev_lenL, ev_lenT, ev_ixL, ev_ixT, ev_at0, ev_at1, ev_at2, ev_i30, ev_i31, ev_i32, ev_pk1, ev_pk2, ev_pk3, ev_pk4, ev_pkw1, ev_pkw2, ev_pkv2, ev_isI, ev_isN, ev_isB, ev_inI, ev_inN, ev_inB, ev_listT, ev_listL, ev_tupT, ev_tupL, R.bind_ok, R.out_ok, Option.bind_some, List.getElem?_cons_succ, List.getElem?_cons_zero, List.set_cons_succ, List.set_cons_zero, List.length_cons, List.length_nil, Nat.reduceAdd, Nat.reduceEqDiff, List.getD_cons_succ, List.getD_cons_zero, decide_true, decide_false, Bool.and_true, Bool.and_self, and_self, true_and, List.all_cons, List.all_nil, Bool.not_true, Bool.not_false, if_true, Bool.true_eq_false, Bool.false_eq_true, if_false, isGridL h1 h2 h3 h4, Bool.not_true]
  rfl
theorem needN (n : Int) (z : Str) : F_need_number [.int n, .str z] = .ret .non [] := by
  show outF false (g_need_number [.va (.int n), .va (.str z)]) = _
  simp only [g_need_number, ev_name, ev_c, ev_op2, ev_op1, ev_toR1, ev_toRL1, ev_nil, ev_cons, ev_opn, ev_opnN, ev_tup, ev_lst, ev_lstN, ev_new, ev_tst, ev_notT, ev_andT, ev_orT, ev_notF, ev_andF, ev_orF, ev_ifF, ev_yes, ev_iter, ev_rng1, ev_rng2, ev_rngW, ev_noP, ev_sl, ev_part, ev_next, ev_noG, ev_seq, ev_drop, ev_ret, ev_retN, ev_if, ev_asg, ev_setA, ev_nilA, ev_consA, ev_seqT, ev_seqL, ev_setN, ev_ok, ev_ioV, ev_ioU, ev_ioW, ev_owV, ev_owU, ev_own, ev_put, ev_ixOwn, ev_lenOwn, ev_setIx, ev_comp, ev_compL0, ev_compL1, ev_okC, ev_wipe1, ev_wipe0, ev_rest1, ev_rest0, ev_call, ev_callN, ev_ofr, ev_ofn, ev_ofnN, ev_io, ev_addI, ev_subI, ev_negI, ev_cmpI, ev_eqI, ev_neI, ev_eqS, ev_neS, ev_intI, ev_intB, ev_absI, ev_lenL, ev_lenT, ev_ixL, ev_ixT, ev_at0, ev_at1, ev_at2, ev_i30, ev_i31, ev_i32, ev_pk1, ev_pk2, ev_pk3, ev_pk4, ev_pkw1, ev_pkw2, ev_pkv2, ev_isI, ev_isN, ev_isB, ev_inI, ev_inN, ev_inB, ev_listT, ev_listL, ev_tupT, ev_tupL, R.bind_ok, R.out_ok, Option.bind_some, List.getElem?_cons_succ, List.getElem?_cons_zero, List.set_cons_succ, List.set_cons_zero, List.length_cons, List.length_nil, Nat.reduceAdd, Nat.reduceEqDiff, List.getD_cons_succ, List.getD_cons_zero, decide_true, decide_false, Bool.and_true, Bool.and_self, and_self, true_and, List.all_cons, List.all_nil, Bool.not_true, Bool.not_false, if_true, Bool.true_eq_false, Bool.false_eq_true, if_false, integer, Bool.not_true]
  rfl
omit h3 h4
theorem point_in (p : Int) : F_point_in [gridD s o r, .int p] = .ret (.int (o + s * p)) [] := by
  have m : mulD (.int s) (.int p) = some (.int (s * p)) := ev_mulS (.inl ⟨by omega, by omega⟩)
  show outF false (g_point_in [.va (.tup [.int s, .int o, .str r.s]), .va (.int p)]) = _
  simp only [g_point_in, ev_name, ev_c, ev_op2, ev_op1, ev_toR1, ev_toRL1, ev_nil, ev_cons, ev_opn, ev_opnN, ev_tup, ev_lst, ev_lstN, ev_new, ev_tst, ev_notT, ev_andT, ev_orT, ev_notF, ev_andF, ev_orF, ev_ifF, ev_yes, ev_iter, ev_rng1, ev_rng2, ev_rngW, ev_noP, ev_sl, ev_part, ev_next, ev_noG, ev_seq, ev_drop, ev_ret, ev_retN, ev_if, ev_asg, ev_setA, ev_nilA, ev_consA, ev_seqT, ev_seqL, ev_setN, ev_ok, ev_ioV, ev_ioU, ev_ioW, ev_owV, ev_owU, ev_own, ev_put, ev_ixOwn, ev_lenOwn, ev_setIx, ev_comp, ev_compL0, ev_compL1, ev_okC, ev_wipe1, ev_wipe0, ev_rest1, ev_rest0, ev_call, ev_callN, ev_ofr, ev_ofn, ev_ofnN, ev_io, ev_addI, ev_subI, ev_negI, ev_cmpI, ev_eqI, ev_neI, ev_eqS, ev_neS, ev_intI, ev_intB, ev_absI, ev_lenL, ev_lenT, ev_ixL, ev_ixT, ev_at0, ev_at1, ev_at2, ev_i30, ev_i31, ev_i32, ev_pk1, ev_pk2, ev_pk3, ev_pk4, ev_pkw1, ev_pkw2, ev_pkv2, ev_isI, ev_isN, ev_isB, ev_inI, ev_inN, ev_inB, ev_listT, ev_listL, ev_tupT, ev_tupL, R.bind_ok, R.out_ok, Option.bind_some, List.getElem?_cons_succ, List.getElem?_cons_zero, List.set_cons_succ, List.set_cons_zero, List.length_cons, List.length_nil, Nat.reduceAdd, Nat.reduceEqDiff, List.getD_cons_succ, List.getD_cons_zero, decide_true, decide_false, Bool.and_true, Bool.and_self, and_self, true_and, List.all_cons, List.all_nil, Bool.not_true, Bool.not_false, if_true, Bool.true_eq_false, Bool.false_eq_true, if_false, m]
  rfl
include h3 h4
theorem markT (n : Int) : F_mark [gridD s o r, .int n] = .ret (.int (mkIn s o n r)) [] := by
  show outF false (g_mark [.va (gridD s o r), .va (.int n), .un]) = _
  simp only [g_mark, ev_name, ev_c, ev_op2, ev_op1, ev_toR1, ev_toRL1, ev_nil, ev_cons, ev_opn, ev_opnN, ev_tup, ev_lst, ev_lstN, ev_new, ev_tst, ev_notT, ev_andT, ev_orT, ev_notF, ev_andF, ev_orF, ev_ifF, ev_yes, ev_iter, ev_rng1, ev_rng2, ev_rngW, ev_noP, ev_sl, ev_part, ev_next, ev_noG, ev_seq, ev_drop, ev_ret, ev_retN, ev_if, ev_asg, ev_setA, ev_nilA, ev_consA, ev_seqT, ev_seqL, ev_setN, ev_ok, ev_ioV, ev_ioU, ev_ioW, ev_owV, ev_owU, ev_own, ev_put, ev_ixOwn, ev_lenOwn, ev_setIx, ev_comp, ev_compL0, ev_compL1, ev_okC, ev_wipe1, ev_wipe0, ev_rest1, ev_rest0, ev_call, ev_callN, ev_ofr, ev_ofn, ev_ofnN, ev_io, ev_addI, ev_subI, ev_negI, ev_cmpI, ev_eqI, ev_neI, ev_eqS, ev_neS, ev_intI, ev_intB, ev_absI, ev_lenL, ev_lenT, ev_ixL, ev_ixT, ev_at0, ev_at1, ev_at2, ev_i30, ev_i31, ev_i32, ev_pk1, ev_pk2, ev_pk3, ev_pk4, ev_pkw1, ev_pkw2, ev_pkv2, ev_isI, ev_isN, ev_isB, ev_inI, ev_inN, ev_inB, ev_listT, ev_listL, ev_tupT, ev_tupL, R.bind_ok, R.out_ok, Option.bind_some, List.getElem?_cons_succ, List.getElem?_cons_zero, List.set_cons_succ, List.set_cons_zero, List.length_cons, List.length_nil, Nat.reduceAdd, Nat.reduceEqDiff, List.getD_cons_succ, List.getD_cons_zero, decide_true, decide_false, Bool.and_true, Bool.and_self, and_self, true_and, List.all_cons, List.all_nil, Bool.not_true, Bool.not_false, if_true, Bool.true_eq_false, Bool.false_eq_true, if_false, needT h1 h2 h3 h4, needN h1 h2 h3 h4, mark_in h1 h2]
  rfl
theorem pointT (p : Int) : F_point [gridD s o r, .int p] = .ret (.int (o + s * p)) [] := by
  show outF false (g_point [.va (gridD s o r), .va (.int p), .un]) = _
  simp only [g_point, ev_name, ev_c, ev_op2, ev_op1, ev_toR1, ev_toRL1, ev_nil, ev_cons, ev_opn, ev_opnN, ev_tup, ev_lst, ev_lstN, ev_new, ev_tst, ev_notT, ev_andT, ev_orT, ev_notF, ev_andF, ev_orF, ev_ifF, ev_yes, ev_iter, ev_rng1, ev_rng2, ev_rngW, ev_noP, ev_sl, ev_part, ev_next, ev_noG, ev_seq, ev_drop, ev_ret, ev_retN, ev_if, ev_asg, ev_setA, ev_nilA, ev_consA, ev_seqT, ev_seqL, ev_setN, ev_ok, ev_ioV, ev_ioU, ev_ioW, ev_owV, ev_owU, ev_own, ev_put, ev_ixOwn, ev_lenOwn, ev_setIx, ev_comp, ev_compL0, ev_compL1, ev_okC, ev_wipe1, ev_wipe0, ev_rest1, ev_rest0, ev_call, ev_callN, ev_ofr, ev_ofn, ev_ofnN, ev_io, ev_addI, ev_subI, ev_negI, ev_cmpI, ev_eqI, ev_neI, ev_eqS, ev_neS, ev_intI, ev_intB, ev_absI, ev_lenL, ev_lenT, ev_ixL, ev_ixT, ev_at0, ev_at1, ev_at2, ev_i30, ev_i31, ev_i32, ev_pk1, ev_pk2, ev_pk3, ev_pk4, ev_pkw1, ev_pkw2, ev_pkv2, ev_isI, ev_isN, ev_isB, ev_inI, ev_inN, ev_inB, ev_listT, ev_listL, ev_tupT, ev_tupL, R.bind_ok, R.out_ok, Option.bind_some, List.getElem?_cons_succ, List.getElem?_cons_zero, List.set_cons_succ, List.set_cons_zero, List.length_cons, List.length_nil, Nat.reduceAdd, Nat.reduceEqDiff, List.getD_cons_succ, List.getD_cons_zero, decide_true, decide_false, Bool.and_true, Bool.and_self, and_self, true_and, List.all_cons, List.all_nil, Bool.not_true, Bool.not_false, if_true, Bool.true_eq_false, Bool.false_eq_true, if_false, needT h1 h2 h3 h4, needN h1 h2 h3 h4, point_in h1 h2]
  rfl
theorem nearT (n : Int) : F_nearest [gridD s o r, .int n] = .ret (.int (o + s * mkIn s o n r)) [] := by
  show outF false (g_nearest [.va (gridD s o r), .va (.int n), .un]) = _
  simp only [g_nearest, ev_name, ev_c, ev_op2, ev_op1, ev_toR1, ev_toRL1, ev_nil, ev_cons, ev_opn, ev_opnN, ev_tup, ev_lst, ev_lstN, ev_new, ev_tst, ev_notT, ev_andT, ev_orT, ev_notF, ev_andF, ev_orF, ev_ifF, ev_yes, ev_iter, ev_rng1, ev_rng2, ev_rngW, ev_noP, ev_sl, ev_part, ev_next, ev_noG, ev_seq, ev_drop, ev_ret, ev_retN, ev_if, ev_asg, ev_setA, ev_nilA, ev_consA, ev_seqT, ev_seqL, ev_setN, ev_ok, ev_ioV, ev_ioU, ev_ioW, ev_owV, ev_owU, ev_own, ev_put, ev_ixOwn, ev_lenOwn, ev_setIx, ev_comp, ev_compL0, ev_compL1, ev_okC, ev_wipe1, ev_wipe0, ev_rest1, ev_rest0, ev_call, ev_callN, ev_ofr, ev_ofn, ev_ofnN, ev_io, ev_addI, ev_subI, ev_negI, ev_cmpI, ev_eqI, ev_neI, ev_eqS, ev_neS, ev_intI, ev_intB, ev_absI, ev_lenL, ev_lenT, ev_ixL, ev_ixT, ev_at0, ev_at1, ev_at2, ev_i30, ev_i31, ev_i32, ev_pk1, ev_pk2, ev_pk3, ev_pk4, ev_pkw1, ev_pkw2, ev_pkv2, ev_isI, ev_isN, ev_isB, ev_inI, ev_inN, ev_inB, ev_listT, ev_listL, ev_tupT, ev_tupL, R.bind_ok, R.out_ok, Option.bind_some, List.getElem?_cons_succ, List.getElem?_cons_zero, List.set_cons_succ, List.set_cons_zero, List.length_cons, List.length_nil, Nat.reduceAdd, Nat.reduceEqDiff, List.getD_cons_succ, List.getD_cons_zero, decide_true, decide_false, Bool.and_true, Bool.and_self, and_self, true_and, List.all_cons, List.all_nil, Bool.not_true, Bool.not_false, if_true, Bool.true_eq_false, Bool.false_eq_true, if_false, needT h1 h2 h3 h4, needN h1 h2 h3 h4, mark_in h1 h2, point_in h1 h2]
  rfl
theorem nearL (n : Int) : F_nearest [gridL s o r, .int n] = .ret (.int (o + s * mkIn s o n r)) [] := by
  show outF false (g_nearest [.va (gridL s o r), .va (.int n), .un]) = _
  simp only [g_nearest, ev_name, ev_c, ev_op2, ev_op1, ev_toR1, ev_toRL1, ev_nil, ev_cons, ev_opn, ev_opnN, ev_tup, ev_lst, ev_lstN, ev_new, ev_tst, ev_notT, ev_andT, ev_orT, ev_notF, ev_andF, ev_orF, ev_ifF, ev_yes, ev_iter, ev_rng1, ev_rng2, ev_rngW, ev_noP, ev_sl, ev_part, ev_next, ev_noG, ev_seq, ev_drop, ev_ret, ev_retN, ev_if, ev_asg, ev_setA, ev_nilA, ev_consA, ev_seqT, ev_seqL, ev_setN, ev_ok, ev_ioV, ev_ioU, ev_ioW, ev_owV, ev_owU, ev_own, ev_put, ev_ixOwn, ev_lenOwn, ev_setIx, ev_comp, ev_compL0, ev_compL1, ev_okC, ev_wipe1, ev_wipe0, ev_rest1, ev_rest0, ev_call, ev_callN, ev_ofr, ev_ofn, ev_ofnN, ev_io, ev_addI, ev_subI, ev_negI, ev_cmpI, ev_eqI, ev_neI, ev_eqS, ev_neS, ev_intI, ev_intB, ev_absI, ev_lenL, ev_lenT, ev_ixL, ev_ixT, ev_at0, ev_at1, ev_at2, ev_i30, ev_i31, ev_i32, ev_pk1, ev_pk2, ev_pk3, ev_pk4, ev_pkw1, ev_pkw2, ev_pkv2, ev_isI, ev_isN, ev_isB, ev_inI, ev_inN, ev_inB, ev_listT, ev_listL, ev_tupT, ev_tupL, R.bind_ok, R.out_ok, Option.bind_some, List.getElem?_cons_succ, List.getElem?_cons_zero, List.set_cons_succ, List.set_cons_zero, List.length_cons, List.length_nil, Nat.reduceAdd, Nat.reduceEqDiff, List.getD_cons_succ, List.getD_cons_zero, decide_true, decide_false, Bool.and_true, Bool.and_self, and_self, true_and, List.all_cons, List.all_nil, Bool.not_true, Bool.not_false, if_true, Bool.true_eq_false, Bool.false_eq_true, if_false, needL h1 h2 h3 h4, needN h1 h2 h3 h4, mark_in h1 h2, point_in h1 h2]
  rfl
theorem isPt (n : Int) : F_is_point [gridD s o r, .int n] = .ret (.bl (decide ((n - o) % s = 0))) [] := by
  have m : modD (.int (n - o)) (.int s) = some (.int ((n - o) % s)) := ev_modI (by omega)
  have e0 : ixD (gridD s o r) (.int 0) = some (.int s) := rfl
  have e1 : ixD (gridD s o r) (.int 1) = some (.int o) := rfl
  show outF false (g_is_point [.va (gridD s o r), .va (.int n), .un]) = _
  simp only [g_is_point, ev_name, ev_c, ev_op2, ev_op1, ev_toR1, ev_toRL1, ev_nil, ev_cons, ev_opn, ev_opnN, ev_tup, ev_lst, ev_lstN, ev_new, ev_tst, ev_notT, ev_andT, ev_orT, ev_notF, ev_andF, ev_orF, ev_ifF, ev_yes, ev_iter, ev_rng1, ev_rng2, ev_rngW, ev_noP, ev_sl, ev_part, ev_next, ev_noG, ev_seq, ev_drop, ev_ret, ev_retN, ev_if, ev_asg, ev_setA, ev_nilA, ev_consA, ev_seqT, ev_seqL, ev_setN, ev_ok, ev_ioV, ev_ioU, ev_ioW, ev_owV, ev_owU, ev_own, ev_put, ev_ixOwn, ev_lenOwn, ev_setIx, ev_comp, ev_compL0, ev_compL1, ev_okC, ev_wipe1, ev_wipe0, ev_rest1, ev_rest0, ev_call, ev_callN, ev_ofr, ev_ofn, ev_ofnN, ev_io, ev_addI, ev_subI, ev_negI, ev_cmpI, ev_eqI, ev_neI, ev_eqS, ev_neS, ev_intI, ev_intB, ev_absI, ev_lenL, ev_lenT, ev_ixL, ev_ixT, ev_at0, ev_at1, ev_at2, ev_i30, ev_i31, ev_i32, ev_pk1, ev_pk2, ev_pk3, ev_pk4, ev_pkw1, ev_pkw2, ev_pkv2, ev_isI, ev_isN, ev_isB, ev_inI, ev_inN, ev_inB, ev_listT, ev_listL, ev_tupT, ev_tupL, R.bind_ok, R.out_ok, Option.bind_some, List.getElem?_cons_succ, List.getElem?_cons_zero, List.set_cons_succ, List.set_cons_zero, List.length_cons, List.length_nil, Nat.reduceAdd, Nat.reduceEqDiff, List.getD_cons_succ, List.getD_cons_zero, decide_true, decide_false, Bool.and_true, Bool.and_self, and_self, true_and, List.all_cons, List.all_nil, Bool.not_true, Bool.not_false, if_true, Bool.true_eq_false, Bool.false_eq_true, if_false, needT h1 h2 h3 h4, needN h1 h2 h3 h4, m, e0, e1]
  rfl
end
end Fx

set_option Elab.async false
set_option linter.all false
set_option maxRecDepth 100000
set_option exponentiation.threshold 1000
namespace Fx
open PySem L2 PyProof.Rows
def Big (n : Int) : Prop := -(10 ^ 36) ≤ n ∧ n ≤ 10 ^ 36
theorem near {b : Nat} {P : List D} {s o : Int} {r : Rl} (h : Pen b P) (hb : b < 2 ^ 19) (h1 : 1 ≤ s) (h2 : s ≤ 999) (h3 : 0 ≤ o) (h4 : o < s) : ∃ n P', F__law_near [.lst P, gridD s o r] = .ret (.int n) P' ∧ Big n ∧ Pen (b + 6) P' := by
  obtain ⟨r1, P1, e1, a1, b1, g1⟩ := draw (m := 40) h (by omega) (by decide) (by decide)
  obtain ⟨r2, P2, e2, a2, b2, g2⟩ := draw (m := 1000000000) g1 (by omega) (by decide) (by decide)
  obtain ⟨r3, P3, e3, a3, b3, g3⟩ := draw (m := 1000000000) g2 (by omega) (by decide) (by decide)
  obtain ⟨d4, P4, e4, m4, g4⟩ := pick (xs := [.int 0, .int 1, .int (-1), .int (r1 - 20), .int (100000000000000000000000000000 + r2), .int (r3 - 1000000000000000000000000000000)]) g3 (by omega) (by simp) (by simp)
  obtain ⟨p, rfl, p1, p2⟩ : ∃ p, d4 = .int p ∧ -(1000000000000000000000000000000) ≤ p ∧ p ≤ 1000000000000000000000000000000 := by
    simp only [List.mem_cons, List.not_mem_nil, or_false] at m4
    rcases m4 with rfl | rfl | rfl | rfl | rfl | rfl <;> exact ⟨_, rfl, by omega, by omega⟩
  obtain ⟨r5, P5, e5, a5, b5, g5⟩ := draw (m := s) g4 (by omega) (by omega) (by omega)
  obtain ⟨d6, P6, e6, m6, g6⟩ := pick (xs := [.int 0, .int 1, .int (-1), .int (s / 2), .int (s / 2 + 1), .int (s - 1), .int r5]) g5 (by omega) (by simp) (by simp)
  obtain ⟨t, rfl, t1, t2⟩ : ∃ t, d6 = .int t ∧ -1 ≤ t ∧ t ≤ 1000 := by
    simp only [List.mem_cons, List.not_mem_nil, or_false] at m6
    rcases m6 with rfl | rfl | rfl | rfl | rfl | rfl | rfl <;> exact ⟨_, rfl, by omega, by omega⟩
  have q9 : powD (.int 10) (.int 9) = some (.int 1000000000) := rfl
  have q29 : powD (.int 10) (.int 29) = some (.int 100000000000000000000000000000) := rfl
  have q30 : powD (.int 10) (.int 30) = some (.int 1000000000000000000000000000000) := rfl
  have ms : mulD (.int s) (.int p) = some (.int (s * p)) := ev_mulS (.inl ⟨by omega, by omega⟩)
  have f2 : fdivD (.int s) (.int 2) = some (.int (s / 2)) := ev_fdivI (by decide) (by decide)
  have s6 : (6 ≤ sizeLine) = True := by rw [sizeLine_eq]; decide
  have s7 : (7 ≤ sizeLine) = True := by rw [sizeLine_eq]; decide
  refine ⟨o + s * p + t, P6, ?_, ?_, g6.mono (by omega)⟩
  · show outF true (g__law_near [.io P, .va (.tup [.int s, .int o, .str r.s]), .un, .un, .un, .un]) = _
    simp only [g__law_near, ev_name, ev_c, ev_op2, ev_op1, ev_toR1, ev_toRL1, ev_nil, ev_cons, ev_opn, ev_opnN, ev_tup, ev_lst, ev_lstN, ev_new, ev_tst, ev_notT, ev_andT, ev_orT, ev_notF, ev_andF, ev_orF, ev_ifF, ev_yes, ev_iter, ev_rng1, ev_rng2, ev_rngW, ev_noP, ev_sl, ev_part, ev_next, ev_noG, ev_seq, ev_drop, ev_ret, ev_retN, ev_if, ev_asg, ev_setA, ev_nilA, ev_consA, ev_seqT, ev_seqL, ev_setN, ev_ok, ev_ioV, ev_ioU, ev_ioW, ev_owV, ev_owU, ev_own, ev_put, ev_ixOwn, ev_lenOwn, ev_setIx, ev_comp, ev_compL0, ev_compL1, ev_okC, ev_wipe1, ev_wipe0, ev_rest1, ev_rest0, ev_call, ev_callN, ev_ofr, ev_ofn, ev_ofnN, ev_io, ev_addI, ev_subI, ev_negI, ev_cmpI, ev_eqI, ev_neI, ev_eqS, ev_neS, ev_intI, ev_intB, ev_absI, ev_lenL, ev_lenT, ev_ixL, ev_ixT, ev_at0, ev_at1, ev_at2, ev_i30, ev_i31, ev_i32, ev_pk1, ev_pk2, ev_pk3, ev_pk4, ev_pkw1, ev_pkw2, ev_pkv2, ev_isI, ev_isN, ev_isB, ev_inI, ev_inN, ev_inB, ev_listT, ev_listL, ev_tupT, ev_tupL, R.bind_ok, R.out_ok, Option.bind_some, List.getElem?_cons_succ, List.getElem?_cons_zero, List.set_cons_succ, List.set_cons_zero, List.length_cons, List.length_nil, Nat.reduceAdd, Nat.reduceEqDiff, List.getD_cons_succ, List.getD_cons_zero, decide_true, decide_false, Bool.and_true, Bool.and_self, and_self, true_and, List.all_cons, List.all_nil, Bool.not_true, Bool.not_false, if_true, Bool.true_eq_false, Bool.false_eq_true, if_false, e1, e2, e3, e4, e5, e6, q9, q29, q30, ms, f2, s6, s7]
    rfl
  · have k1 : s * p ≤ 999 * 1000000000000000000000000000000 := by
      have := Int.mul_le_mul_of_nonneg_left p2 (show (0 : Int) ≤ s by omega)
      omega
    have k2 : -(999 * 1000000000000000000000000000000) ≤ s * p := by
      have := Int.mul_le_mul_of_nonneg_left p1 (show (0 : Int) ≤ s by omega)
      omega
    unfold Big
    omega
theorem rng4 (x : Int) : rngD (x - 1) (x + 3) = [.int (x - 1), .int x, .int (x + 1), .int (x + 2)] := by
  unfold rngD
  have e : (x + 3 - (x - 1)).toNat = 4 := by omega
  rw [e]
  show [D.int (x - 1 + ((0 : Nat) : Int)), D.int (x - 1 + ((1 : Nat) : Int)), D.int (x - 1 + ((2 : Nat) : Int)), D.int (x - 1 + ((3 : Nat) : Int))] = _
  have e0 : x - 1 + ((0 : Nat) : Int) = x - 1 := by omega
  have e1 : x - 1 + ((1 : Nat) : Int) = x := by omega
  have e2 : x - 1 + ((2 : Nat) : Int) = x + 1 := by omega
  have e3 : x - 1 + ((3 : Nat) : Int) = x + 2 := by omega
  rw [e0, e1, e2, e3]
theorem min1 (L : Int) {s v : Int} (h1 : 1 ≤ s) (h : 2 * v ≤ s) : minTD [.lst [.tup [.int (v + s), .int (L - 1)], .tup [.int v, .int L], .tup [.int (s - v), .int (L + 1)], .tup [.int (2 * s - v), .int (L + 2)]]] = some (.tup [.int v, .int L]) := by
  have e1 : lexB [[v + s, L - 1], [v, L], [s - v, L + 1], [2 * s - v, L + 2]] 1 0 = true := by
    show HT.lexLt [v, L] [v + s, L - 1] = true
    rw [HT.lexLt_cons, if_neg (by omega)]
    exact decide_eq_true (by omega)
  have e2 : lexB [[v + s, L - 1], [v, L], [s - v, L + 1], [2 * s - v, L + 2]] 2 1 = false := by
    show HT.lexLt [s - v, L + 1] [v, L] = false
    rw [HT.lexLt_cons]
    split
    · rw [HT.lexLt_cons, if_neg (by omega)]
      exact decide_eq_false (by omega)
    · exact decide_eq_false (by omega)
  have e3 : lexB [[v + s, L - 1], [v, L], [s - v, L + 1], [2 * s - v, L + 2]] 3 1 = false := by
    show HT.lexLt [2 * s - v, L + 2] [v, L] = false
    rw [HT.lexLt_cons, if_neg (by omega)]
    exact decide_eq_false (by omega)
  show [D.tup [.int (v + s), .int (L - 1)], .tup [.int v, .int L], .tup [.int (s - v), .int (L + 1)], .tup [.int (2 * s - v), .int (L + 2)]][argBest (lexB [[v + s, L - 1], [v, L], [s - v, L + 1], [2 * s - v, L + 2]]) 3]? = _
  simp only [argBest, e1, e2, e3, if_true, Bool.false_eq_true, if_false]
  rfl
theorem min2 (L : Int) {s v : Int} (h1 : v < s) (h : s < 2 * v) : minTD [.lst [.tup [.int (v + s), .int (L - 1)], .tup [.int v, .int L], .tup [.int (s - v), .int (L + 1)], .tup [.int (2 * s - v), .int (L + 2)]]] = some (.tup [.int (s - v), .int (L + 1)]) := by
  have e1 : lexB [[v + s, L - 1], [v, L], [s - v, L + 1], [2 * s - v, L + 2]] 1 0 = true := by
    show HT.lexLt [v, L] [v + s, L - 1] = true
    rw [HT.lexLt_cons, if_neg (by omega)]
    exact decide_eq_true (by omega)
  have e2 : lexB [[v + s, L - 1], [v, L], [s - v, L + 1], [2 * s - v, L + 2]] 2 1 = true := by
    show HT.lexLt [s - v, L + 1] [v, L] = true
    rw [HT.lexLt_cons, if_neg (by omega)]
    exact decide_eq_true (by omega)
  have e3 : lexB [[v + s, L - 1], [v, L], [s - v, L + 1], [2 * s - v, L + 2]] 3 2 = false := by
    show HT.lexLt [2 * s - v, L + 2] [s - v, L + 1] = false
    rw [HT.lexLt_cons, if_neg (by omega)]
    exact decide_eq_false (by omega)
  show [D.tup [.int (v + s), .int (L - 1)], .tup [.int v, .int L], .tup [.int (s - v), .int (L + 1)], .tup [.int (2 * s - v), .int (L + 2)]][argBest (lexB [[v + s, L - 1], [v, L], [s - v, L + 1], [2 * s - v, L + 2]]) 3]? = _
  simp only [argBest, e1, e2, e3, if_true, Bool.false_eq_true, if_false]
  rfl
theorem mark {s o n : Int} {r : Rl} (h1 : 1 ≤ s) (h2 : s ≤ 999) : F__law_mark [gridD s o r, .int n] = .ret (.int (mkIn s o n r)) [] := by
  obtain ⟨L, hL⟩ : ∃ L, L = (n - o) / s := ⟨_, rfl⟩
  obtain ⟨v, hv⟩ : ∃ v, v = (n - o) % s := ⟨_, rfl⟩
  have v0 : 0 ≤ v := by rw [hv]; exact Int.emod_nonneg _ (by omega)
  have v1 : v < s := by rw [hv]; exact Int.emod_lt_of_pos _ (by omega)
  have hn : n - o = s * L + v := by rw [hL, hv]; exact (Int.mul_ediv_add_emod _ _).symm
  have ms : ∀ x : Int, mulD (.int s) (.int x) = some (.int (s * x)) := fun x => ev_mulS (.inl ⟨by omega, by omega⟩)
  have fd : fdivD (.int (n - o)) (.int s) = some (.int L) := by
    rw [hL]
    exact ev_fdivI (by omega) (log_lt (by omega) (by omega))
  have x1 : s * (L - 1) = s * L - s := by rw [Int.mul_sub, Int.mul_one]
  have x2 : s * (L + 1) = s * L + s := by rw [Int.mul_add, Int.mul_one]
  have x3 : s * (L + 2) = s * L + 2 * s := by rw [Int.mul_add, Int.mul_comm s 2]
  have a1 : absD [.int (n - o - s * (L - 1))] = some (.int (v + s)) := by
    rw [ev_absI, x1, if_neg (by omega), hn]
    congr 2
    omega
  have a2 : absD [.int (n - o - s * L)] = some (.int v) := by
    rw [ev_absI, if_neg (by omega), hn]
    congr 2
    omega
  have a3 : absD [.int (n - o - s * (L + 1))] = some (.int (s - v)) := by
    rw [ev_absI, x2, hn]
    congr 2
    split <;> omega
  have a4 : absD [.int (n - o - s * (L + 2))] = some (.int (2 * s - v)) := by
    rw [ev_absI, x3, hn]
    congr 2
    split <;> omega
  have s2 : (2 ≤ sizeLine) = True := by rw [sizeLine_eq]; decide
  have s4 : (4 < sizeLine) = True := by rw [sizeLine_eq]; decide
  show outF false (g__law_mark [.va (.tup [.int s, .int o, .str r.s]), .va (.int n), .un, .un, .un, .un, .un, .un, .un, .un, .un]) = _
  cases r with
  | floor =>
    have d1 : decide (o + s * (L - 1) ≤ n) = true := decide_eq_true (by omega)
    have d2 : decide (o + s * L ≤ n) = true := decide_eq_true (by omega)
    have d3 : decide (o + s * (L + 1) ≤ n) = false := decide_eq_false (by omega)
    have d4 : decide (o + s * (L + 2) ≤ n) = false := decide_eq_false (by omega)
    have m : maxD [.lst [.int (L - 1), .int L]] = some (.int L) := by
      show some (D.int (maxI (L - 1) [L])) = _
      unfold maxI maxI
      rw [if_pos (by omega)]
    simp only [g__law_mark, ev_name, ev_c, ev_op2, ev_op1, ev_toR1, ev_toRL1, ev_nil, ev_cons, ev_opn, ev_opnN, ev_tup, ev_lst, ev_lstN, ev_new, ev_tst, ev_notT, ev_andT, ev_orT, ev_notF, ev_andF, ev_orF, ev_ifF, ev_yes, ev_iter, ev_rng1, ev_rng2, ev_rngW, ev_noP, ev_sl, ev_part, ev_next, ev_noG, ev_seq, ev_drop, ev_ret, ev_retN, ev_if, ev_asg, ev_setA, ev_nilA, ev_consA, ev_seqT, ev_seqL, ev_setN, ev_ok, ev_ioV, ev_ioU, ev_ioW, ev_owV, ev_owU, ev_own, ev_put, ev_ixOwn, ev_lenOwn, ev_setIx, ev_comp, ev_compL0, ev_compL1, ev_okC, ev_wipe1, ev_wipe0, ev_rest1, ev_rest0, ev_call, ev_callN, ev_ofr, ev_ofn, ev_ofnN, ev_io, ev_addI, ev_subI, ev_negI, ev_cmpI, ev_eqI, ev_neI, ev_eqS, ev_neS, ev_intI, ev_intB, ev_absI, ev_lenL, ev_lenT, ev_ixL, ev_ixT, ev_at0, ev_at1, ev_at2, ev_i30, ev_i31, ev_i32, ev_pk1, ev_pk2, ev_pk3, ev_pk4, ev_pkw1, ev_pkw2, ev_pkv2, ev_isI, ev_isN, ev_isB, ev_inI, ev_inN, ev_inB, ev_listT, ev_listL, ev_tupT, ev_tupL, R.bind_ok, R.out_ok, Option.bind_some, List.getElem?_cons_succ, List.getElem?_cons_zero, List.set_cons_succ, List.set_cons_zero, List.length_cons, List.length_nil, Nat.reduceAdd, Nat.reduceEqDiff, List.getD_cons_succ, List.getD_cons_zero, decide_true, decide_false, Bool.and_true, Bool.and_self, and_self, true_and, List.all_cons, List.all_nil, Bool.not_true, Bool.not_false, if_true, Bool.true_eq_false, Bool.false_eq_true, if_false, rs_floor_floor, rs_floor_ceil, rs_floor_up, rs_floor_down, rs_floor_even, rs_floor_odd, rs_ceil_floor, rs_ceil_ceil, rs_ceil_up, rs_ceil_down, rs_ceil_even, rs_ceil_odd, rs_up_floor, rs_up_ceil, rs_up_up, rs_up_down, rs_up_even, rs_up_odd, rs_down_floor, rs_down_ceil, rs_down_up, rs_down_down, rs_down_even, rs_down_odd, rs_even_floor, rs_even_ceil, rs_even_up, rs_even_down, rs_even_even, rs_even_odd, rs_odd_floor, rs_odd_ceil, rs_odd_up, rs_odd_down, rs_odd_even, rs_odd_odd, Rl.s, ms, fd, rng4, ← ev_absI, a1, a2, a3, a4, s2, s4, d1, d2, d3, d4, m]
    unfold mkIn
    rw [← hL]
    rfl
  | ceil =>
    have d1 : decide (n ≤ o + s * (L - 1)) = false := decide_eq_false (by omega)
    have d3 : decide (n ≤ o + s * (L + 1)) = true := decide_eq_true (by omega)
    have d4 : decide (n ≤ o + s * (L + 2)) = true := decide_eq_true (by omega)
    by_cases z : v = 0
    · have d2 : decide (n ≤ o + s * L) = true := decide_eq_true (by omega)
      have m : minD [.lst [.int L, .int (L + 1), .int (L + 2)]] = some (.int L) := by
        show some (D.int (minI L [L + 1, L + 2])) = _
        unfold minI
        rw [if_neg (by omega)]
        unfold minI minI
        rw [if_neg (by omega)]
      simp only [g__law_mark, ev_name, ev_c, ev_op2, ev_op1, ev_toR1, ev_toRL1, ev_nil, ev_cons, ev_opn, ev_opnN, ev_tup, ev_lst, ev_lstN, ev_new, ev_tst, ev_notT, ev_andT, ev_orT, ev_notF, ev_andF, ev_orF, ev_ifF, ev_yes, ev_iter, ev_rng1, ev_rng2, ev_rngW, ev_noP, ev_sl, ev_part, ev_next, ev_noG, ev_seq, ev_drop, ev_ret, ev_retN, ev_if, ev_asg, ev_setA, ev_nilA, ev_consA, ev_seqT, ev_seqL, ev_setN, ev_ok, ev_ioV, ev_ioU, ev_ioW, ev_owV, ev_owU, ev_own, ev_put, ev_ixOwn, ev_lenOwn, ev_setIx, ev_comp, ev_compL0, ev_compL1, ev_okC, ev_wipe1, ev_wipe0, ev_rest1, ev_rest0, ev_call, ev_callN, ev_ofr, ev_ofn, ev_ofnN, ev_io, ev_addI, ev_subI, ev_negI, ev_cmpI, ev_eqI, ev_neI, ev_eqS, ev_neS, ev_intI, ev_intB, ev_absI, ev_lenL, ev_lenT, ev_ixL, ev_ixT, ev_at0, ev_at1, ev_at2, ev_i30, ev_i31, ev_i32, ev_pk1, ev_pk2, ev_pk3, ev_pk4, ev_pkw1, ev_pkw2, ev_pkv2, ev_isI, ev_isN, ev_isB, ev_inI, ev_inN, ev_inB, ev_listT, ev_listL, ev_tupT, ev_tupL, R.bind_ok, R.out_ok, Option.bind_some, List.getElem?_cons_succ, List.getElem?_cons_zero, List.set_cons_succ, List.set_cons_zero, List.length_cons, List.length_nil, Nat.reduceAdd, Nat.reduceEqDiff, List.getD_cons_succ, List.getD_cons_zero, decide_true, decide_false, Bool.and_true, Bool.and_self, and_self, true_and, List.all_cons, List.all_nil, Bool.not_true, Bool.not_false, if_true, Bool.true_eq_false, Bool.false_eq_true, if_false, rs_floor_floor, rs_floor_ceil, rs_floor_up, rs_floor_down, rs_floor_even, rs_floor_odd, rs_ceil_floor, rs_ceil_ceil, rs_ceil_up, rs_ceil_down, rs_ceil_even, rs_ceil_odd, rs_up_floor, rs_up_ceil, rs_up_up, rs_up_down, rs_up_even, rs_up_odd, rs_down_floor, rs_down_ceil, rs_down_up, rs_down_down, rs_down_even, rs_down_odd, rs_even_floor, rs_even_ceil, rs_even_up, rs_even_down, rs_even_even, rs_even_odd, rs_odd_floor, rs_odd_ceil, rs_odd_up, rs_odd_down, rs_odd_even, rs_odd_odd, Rl.s, ms, fd, rng4, ← ev_absI, a1, a2, a3, a4, s2, s4, d1, d2, d3, d4, m]
      unfold mkIn
      rw [← hv, ← hL]
      dsimp only
      rw [if_pos z]
      rfl
    · have d2 : decide (n ≤ o + s * L) = false := decide_eq_false (by omega)
      have m : minD [.lst [.int (L + 1), .int (L + 2)]] = some (.int (L + 1)) := by
        show some (D.int (minI (L + 1) [L + 2])) = _
        unfold minI minI
        rw [if_neg (by omega)]
      simp only [g__law_mark, ev_name, ev_c, ev_op2, ev_op1, ev_toR1, ev_toRL1, ev_nil, ev_cons, ev_opn, ev_opnN, ev_tup, ev_lst, ev_lstN, ev_new, ev_tst, ev_notT, ev_andT, ev_orT, ev_notF, ev_andF, ev_orF, ev_ifF, ev_yes, ev_iter, ev_rng1, ev_rng2, ev_rngW, ev_noP, ev_sl, ev_part, ev_next, ev_noG, ev_seq, ev_drop, ev_ret, ev_retN, ev_if, ev_asg, ev_setA, ev_nilA, ev_consA, ev_seqT, ev_seqL, ev_setN, ev_ok, ev_ioV, ev_ioU, ev_ioW, ev_owV, ev_owU, ev_own, ev_put, ev_ixOwn, ev_lenOwn, ev_setIx, ev_comp, ev_compL0, ev_compL1, ev_okC, ev_wipe1, ev_wipe0, ev_rest1, ev_rest0, ev_call, ev_callN, ev_ofr, ev_ofn, ev_ofnN, ev_io, ev_addI, ev_subI, ev_negI, ev_cmpI, ev_eqI, ev_neI, ev_eqS, ev_neS, ev_intI, ev_intB, ev_absI, ev_lenL, ev_lenT, ev_ixL, ev_ixT, ev_at0, ev_at1, ev_at2, ev_i30, ev_i31, ev_i32, ev_pk1, ev_pk2, ev_pk3, ev_pk4, ev_pkw1, ev_pkw2, ev_pkv2, ev_isI, ev_isN, ev_isB, ev_inI, ev_inN, ev_inB, ev_listT, ev_listL, ev_tupT, ev_tupL, R.bind_ok, R.out_ok, Option.bind_some, List.getElem?_cons_succ, List.getElem?_cons_zero, List.set_cons_succ, List.set_cons_zero, List.length_cons, List.length_nil, Nat.reduceAdd, Nat.reduceEqDiff, List.getD_cons_succ, List.getD_cons_zero, decide_true, decide_false, Bool.and_true, Bool.and_self, and_self, true_and, List.all_cons, List.all_nil, Bool.not_true, Bool.not_false, if_true, Bool.true_eq_false, Bool.false_eq_true, if_false, rs_floor_floor, rs_floor_ceil, rs_floor_up, rs_floor_down, rs_floor_even, rs_floor_odd, rs_ceil_floor, rs_ceil_ceil, rs_ceil_up, rs_ceil_down, rs_ceil_even, rs_ceil_odd, rs_up_floor, rs_up_ceil, rs_up_up, rs_up_down, rs_up_even, rs_up_odd, rs_down_floor, rs_down_ceil, rs_down_up, rs_down_down, rs_down_even, rs_down_odd, rs_even_floor, rs_even_ceil, rs_even_up, rs_even_down, rs_even_even, rs_even_odd, rs_odd_floor, rs_odd_ceil, rs_odd_up, rs_odd_down, rs_odd_even, rs_odd_odd, Rl.s, ms, fd, rng4, ← ev_absI, a1, a2, a3, a4, s2, s4, d1, d2, d3, d4, m]
      unfold mkIn
      rw [← hv, ← hL]
      dsimp only
      rw [if_neg z]
      rfl
  | up =>
    have f1 : decide (v + s = v) = false := decide_eq_false (by omega)
    have f4 : decide (2 * s - v = v) = false := decide_eq_false (by omega)
    have t2 : decide (((2 : Nat) : Int) = 1) = false := rfl
    have ti : inD false (.str "up") (.tup [.str "up", .str "down"]) = some (.bl true) := rfl
    rcases Int.lt_trichotomy (2 * v) s with c | c | c
    · have m := min1 L (s := s) (v := v) (by omega) (by omega)
      have f3 : decide (s - v = v) = false := decide_eq_false (by omega)
      simp only [g__law_mark, ev_name, ev_c, ev_op2, ev_op1, ev_toR1, ev_toRL1, ev_nil, ev_cons, ev_opn, ev_opnN, ev_tup, ev_lst, ev_lstN, ev_new, ev_tst, ev_notT, ev_andT, ev_orT, ev_notF, ev_andF, ev_orF, ev_ifF, ev_yes, ev_iter, ev_rng1, ev_rng2, ev_rngW, ev_noP, ev_sl, ev_part, ev_next, ev_noG, ev_seq, ev_drop, ev_ret, ev_retN, ev_if, ev_asg, ev_setA, ev_nilA, ev_consA, ev_seqT, ev_seqL, ev_setN, ev_ok, ev_ioV, ev_ioU, ev_ioW, ev_owV, ev_owU, ev_own, ev_put, ev_ixOwn, ev_lenOwn, ev_setIx, ev_comp, ev_compL0, ev_compL1, ev_okC, ev_wipe1, ev_wipe0, ev_rest1, ev_rest0, ev_call, ev_callN, ev_ofr, ev_ofn, ev_ofnN, ev_io, ev_addI, ev_subI, ev_negI, ev_cmpI, ev_eqI, ev_neI, ev_eqS, ev_neS, ev_intI, ev_intB, ev_absI, ev_lenL, ev_lenT, ev_ixL, ev_ixT, ev_at0, ev_at1, ev_at2, ev_i30, ev_i31, ev_i32, ev_pk1, ev_pk2, ev_pk3, ev_pk4, ev_pkw1, ev_pkw2, ev_pkv2, ev_isI, ev_isN, ev_isB, ev_inI, ev_inN, ev_inB, ev_listT, ev_listL, ev_tupT, ev_tupL, R.bind_ok, R.out_ok, Option.bind_some, List.getElem?_cons_succ, List.getElem?_cons_zero, List.set_cons_succ, List.set_cons_zero, List.length_cons, List.length_nil, Nat.reduceAdd, Nat.reduceEqDiff, List.getD_cons_succ, List.getD_cons_zero, decide_true, decide_false, Bool.and_true, Bool.and_self, and_self, true_and, List.all_cons, List.all_nil, Bool.not_true, Bool.not_false, if_true, Bool.true_eq_false, Bool.false_eq_true, if_false, rs_floor_floor, rs_floor_ceil, rs_floor_up, rs_floor_down, rs_floor_even, rs_floor_odd, rs_ceil_floor, rs_ceil_ceil, rs_ceil_up, rs_ceil_down, rs_ceil_even, rs_ceil_odd, rs_up_floor, rs_up_ceil, rs_up_up, rs_up_down, rs_up_even, rs_up_odd, rs_down_floor, rs_down_ceil, rs_down_up, rs_down_down, rs_down_even, rs_down_odd, rs_even_floor, rs_even_ceil, rs_even_up, rs_even_down, rs_even_even, rs_even_odd, rs_odd_floor, rs_odd_ceil, rs_odd_up, rs_odd_down, rs_odd_even, rs_odd_odd, Rl.s, ms, fd, rng4, ← ev_absI, a1, a2, a3, a4, s2, s4, m, f1, f3, f4]
      unfold mkIn
      rw [← hv, ← hL]
      dsimp only
      have e : (if v = 0 then L else if 2 * v ≠ s then L + (if s < 2 * v then 1 else 0) else L + 1) = L := by
        split
        · rfl
        · rw [if_pos (by omega), if_neg (by omega), Int.add_zero]
      rw [e]
      rfl
    · have m := min1 L (s := s) (v := v) (by omega) (by omega)
      have f3 : decide (s - v = v) = true := decide_eq_true (by omega)
      have t : maxD [.lst [.int L, .int (L + 1)]] = some (.int (L + 1)) := by
        show some (D.int (maxI L [L + 1])) = _
        unfold maxI maxI
        rw [if_pos (by omega)]
      simp only [g__law_mark, ev_name, ev_c, ev_op2, ev_op1, ev_toR1, ev_toRL1, ev_nil, ev_cons, ev_opn, ev_opnN, ev_tup, ev_lst, ev_lstN, ev_new, ev_tst, ev_notT, ev_andT, ev_orT, ev_notF, ev_andF, ev_orF, ev_ifF, ev_yes, ev_iter, ev_rng1, ev_rng2, ev_rngW, ev_noP, ev_sl, ev_part, ev_next, ev_noG, ev_seq, ev_drop, ev_ret, ev_retN, ev_if, ev_asg, ev_setA, ev_nilA, ev_consA, ev_seqT, ev_seqL, ev_setN, ev_ok, ev_ioV, ev_ioU, ev_ioW, ev_owV, ev_owU, ev_own, ev_put, ev_ixOwn, ev_lenOwn, ev_setIx, ev_comp, ev_compL0, ev_compL1, ev_okC, ev_wipe1, ev_wipe0, ev_rest1, ev_rest0, ev_call, ev_callN, ev_ofr, ev_ofn, ev_ofnN, ev_io, ev_addI, ev_subI, ev_negI, ev_cmpI, ev_eqI, ev_neI, ev_eqS, ev_neS, ev_intI, ev_intB, ev_absI, ev_lenL, ev_lenT, ev_ixL, ev_ixT, ev_at0, ev_at1, ev_at2, ev_i30, ev_i31, ev_i32, ev_pk1, ev_pk2, ev_pk3, ev_pk4, ev_pkw1, ev_pkw2, ev_pkv2, ev_isI, ev_isN, ev_isB, ev_inI, ev_inN, ev_inB, ev_listT, ev_listL, ev_tupT, ev_tupL, R.bind_ok, R.out_ok, Option.bind_some, List.getElem?_cons_succ, List.getElem?_cons_zero, List.set_cons_succ, List.set_cons_zero, List.length_cons, List.length_nil, Nat.reduceAdd, Nat.reduceEqDiff, List.getD_cons_succ, List.getD_cons_zero, decide_true, decide_false, Bool.and_true, Bool.and_self, and_self, true_and, List.all_cons, List.all_nil, Bool.not_true, Bool.not_false, if_true, Bool.true_eq_false, Bool.false_eq_true, if_false, rs_floor_floor, rs_floor_ceil, rs_floor_up, rs_floor_down, rs_floor_even, rs_floor_odd, rs_ceil_floor, rs_ceil_ceil, rs_ceil_up, rs_ceil_down, rs_ceil_even, rs_ceil_odd, rs_up_floor, rs_up_ceil, rs_up_up, rs_up_down, rs_up_even, rs_up_odd, rs_down_floor, rs_down_ceil, rs_down_up, rs_down_down, rs_down_even, rs_down_odd, rs_even_floor, rs_even_ceil, rs_even_up, rs_even_down, rs_even_even, rs_even_odd, rs_odd_floor, rs_odd_ceil, rs_odd_up, rs_odd_down, rs_odd_even, rs_odd_odd, Rl.s, ms, fd, rng4, ← ev_absI, a1, a2, a3, a4, s2, s4, m, f1, f3, f4, t, t2, ti]
      unfold mkIn
      rw [← hv, ← hL]
      dsimp only
      rw [if_neg (show ¬ v = 0 by omega), if_neg (show ¬ 2 * v ≠ s by omega)]
      rfl
    · have m := min2 L (s := s) (v := v) (by omega) (by omega)
      have f1 : decide (v + s = s - v) = false := decide_eq_false (by omega)
      have f2 : decide (v = s - v) = false := decide_eq_false (by omega)
      have f4 : decide (2 * s - v = s - v) = false := decide_eq_false (by omega)
      simp only [g__law_mark, ev_name, ev_c, ev_op2, ev_op1, ev_toR1, ev_toRL1, ev_nil, ev_cons, ev_opn, ev_opnN, ev_tup, ev_lst, ev_lstN, ev_new, ev_tst, ev_notT, ev_andT, ev_orT, ev_notF, ev_andF, ev_orF, ev_ifF, ev_yes, ev_iter, ev_rng1, ev_rng2, ev_rngW, ev_noP, ev_sl, ev_part, ev_next, ev_noG, ev_seq, ev_drop, ev_ret, ev_retN, ev_if, ev_asg, ev_setA, ev_nilA, ev_consA, ev_seqT, ev_seqL, ev_setN, ev_ok, ev_ioV, ev_ioU, ev_ioW, ev_owV, ev_owU, ev_own, ev_put, ev_ixOwn, ev_lenOwn, ev_setIx, ev_comp, ev_compL0, ev_compL1, ev_okC, ev_wipe1, ev_wipe0, ev_rest1, ev_rest0, ev_call, ev_callN, ev_ofr, ev_ofn, ev_ofnN, ev_io, ev_addI, ev_subI, ev_negI, ev_cmpI, ev_eqI, ev_neI, ev_eqS, ev_neS, ev_intI, ev_intB, ev_absI, ev_lenL, ev_lenT, ev_ixL, ev_ixT, ev_at0, ev_at1, ev_at2, ev_i30, ev_i31, ev_i32, ev_pk1, ev_pk2, ev_pk3, ev_pk4, ev_pkw1, ev_pkw2, ev_pkv2, ev_isI, ev_isN, ev_isB, ev_inI, ev_inN, ev_inB, ev_listT, ev_listL, ev_tupT, ev_tupL, R.bind_ok, R.out_ok, Option.bind_some, List.getElem?_cons_succ, List.getElem?_cons_zero, List.set_cons_succ, List.set_cons_zero, List.length_cons, List.length_nil, Nat.reduceAdd, Nat.reduceEqDiff, List.getD_cons_succ, List.getD_cons_zero, decide_true, decide_false, Bool.and_true, Bool.and_self, and_self, true_and, List.all_cons, List.all_nil, Bool.not_true, Bool.not_false, if_true, Bool.true_eq_false, Bool.false_eq_true, if_false, rs_floor_floor, rs_floor_ceil, rs_floor_up, rs_floor_down, rs_floor_even, rs_floor_odd, rs_ceil_floor, rs_ceil_ceil, rs_ceil_up, rs_ceil_down, rs_ceil_even, rs_ceil_odd, rs_up_floor, rs_up_ceil, rs_up_up, rs_up_down, rs_up_even, rs_up_odd, rs_down_floor, rs_down_ceil, rs_down_up, rs_down_down, rs_down_even, rs_down_odd, rs_even_floor, rs_even_ceil, rs_even_up, rs_even_down, rs_even_even, rs_even_odd, rs_odd_floor, rs_odd_ceil, rs_odd_up, rs_odd_down, rs_odd_even, rs_odd_odd, Rl.s, ms, fd, rng4, ← ev_absI, a1, a2, a3, a4, s2, s4, m, f1, f2, f4]
      unfold mkIn
      rw [← hv, ← hL]
      dsimp only
      rw [if_neg (show ¬ v = 0 by omega), if_pos (show 2 * v ≠ s by omega), if_pos (show s < 2 * v from c)]
      rfl
  | down =>
    have f1 : decide (v + s = v) = false := decide_eq_false (by omega)
    have f4 : decide (2 * s - v = v) = false := decide_eq_false (by omega)
    have t2 : decide (((2 : Nat) : Int) = 1) = false := rfl
    have ti : inD false (.str "down") (.tup [.str "up", .str "down"]) = some (.bl true) := rfl
    rcases Int.lt_trichotomy (2 * v) s with c | c | c
    · have m := min1 L (s := s) (v := v) (by omega) (by omega)
      have f3 : decide (s - v = v) = false := decide_eq_false (by omega)
      simp only [g__law_mark, ev_name, ev_c, ev_op2, ev_op1, ev_toR1, ev_toRL1, ev_nil, ev_cons, ev_opn, ev_opnN, ev_tup, ev_lst, ev_lstN, ev_new, ev_tst, ev_notT, ev_andT, ev_orT, ev_notF, ev_andF, ev_orF, ev_ifF, ev_yes, ev_iter, ev_rng1, ev_rng2, ev_rngW, ev_noP, ev_sl, ev_part, ev_next, ev_noG, ev_seq, ev_drop, ev_ret, ev_retN, ev_if, ev_asg, ev_setA, ev_nilA, ev_consA, ev_seqT, ev_seqL, ev_setN, ev_ok, ev_ioV, ev_ioU, ev_ioW, ev_owV, ev_owU, ev_own, ev_put, ev_ixOwn, ev_lenOwn, ev_setIx, ev_comp, ev_compL0, ev_compL1, ev_okC, ev_wipe1, ev_wipe0, ev_rest1, ev_rest0, ev_call, ev_callN, ev_ofr, ev_ofn, ev_ofnN, ev_io, ev_addI, ev_subI, ev_negI, ev_cmpI, ev_eqI, ev_neI, ev_eqS, ev_neS, ev_intI, ev_intB, ev_absI, ev_lenL, ev_lenT, ev_ixL, ev_ixT, ev_at0, ev_at1, ev_at2, ev_i30, ev_i31, ev_i32, ev_pk1, ev_pk2, ev_pk3, ev_pk4, ev_pkw1, ev_pkw2, ev_pkv2, ev_isI, ev_isN, ev_isB, ev_inI, ev_inN, ev_inB, ev_listT, ev_listL, ev_tupT, ev_tupL, R.bind_ok, R.out_ok, Option.bind_some, List.getElem?_cons_succ, List.getElem?_cons_zero, List.set_cons_succ, List.set_cons_zero, List.length_cons, List.length_nil, Nat.reduceAdd, Nat.reduceEqDiff, List.getD_cons_succ, List.getD_cons_zero, decide_true, decide_false, Bool.and_true, Bool.and_self, and_self, true_and, List.all_cons, List.all_nil, Bool.not_true, Bool.not_false, if_true, Bool.true_eq_false, Bool.false_eq_true, if_false, rs_floor_floor, rs_floor_ceil, rs_floor_up, rs_floor_down, rs_floor_even, rs_floor_odd, rs_ceil_floor, rs_ceil_ceil, rs_ceil_up, rs_ceil_down, rs_ceil_even, rs_ceil_odd, rs_up_floor, rs_up_ceil, rs_up_up, rs_up_down, rs_up_even, rs_up_odd, rs_down_floor, rs_down_ceil, rs_down_up, rs_down_down, rs_down_even, rs_down_odd, rs_even_floor, rs_even_ceil, rs_even_up, rs_even_down, rs_even_even, rs_even_odd, rs_odd_floor, rs_odd_ceil, rs_odd_up, rs_odd_down, rs_odd_even, rs_odd_odd, Rl.s, ms, fd, rng4, ← ev_absI, a1, a2, a3, a4, s2, s4, m, f1, f3, f4]
      unfold mkIn
      rw [← hv, ← hL]
      dsimp only
      have e : (if v = 0 then L else if 2 * v ≠ s then L + (if s < 2 * v then 1 else 0) else L) = L := by
        split
        · rfl
        · rw [if_pos (by omega), if_neg (by omega), Int.add_zero]
      rw [e]
      rfl
    · have m := min1 L (s := s) (v := v) (by omega) (by omega)
      have f3 : decide (s - v = v) = true := decide_eq_true (by omega)
      have t : minD [.lst [.int L, .int (L + 1)]] = some (.int L) := by
        show some (D.int (minI L [L + 1])) = _
        unfold minI minI
        rw [if_neg (by omega)]
      simp only [g__law_mark, ev_name, ev_c, ev_op2, ev_op1, ev_toR1, ev_toRL1, ev_nil, ev_cons, ev_opn, ev_opnN, ev_tup, ev_lst, ev_lstN, ev_new, ev_tst, ev_notT, ev_andT, ev_orT, ev_notF, ev_andF, ev_orF, ev_ifF, ev_yes, ev_iter, ev_rng1, ev_rng2, ev_rngW, ev_noP, ev_sl, ev_part, ev_next, ev_noG, ev_seq, ev_drop, ev_ret, ev_retN, ev_if, ev_asg, ev_setA, ev_nilA, ev_consA, ev_seqT, ev_seqL, ev_setN, ev_ok, ev_ioV, ev_ioU, ev_ioW, ev_owV, ev_owU, ev_own, ev_put, ev_ixOwn, ev_lenOwn, ev_setIx, ev_comp, ev_compL0, ev_compL1, ev_okC, ev_wipe1, ev_wipe0, ev_rest1, ev_rest0, ev_call, ev_callN, ev_ofr, ev_ofn, ev_ofnN, ev_io, ev_addI, ev_subI, ev_negI, ev_cmpI, ev_eqI, ev_neI, ev_eqS, ev_neS, ev_intI, ev_intB, ev_absI, ev_lenL, ev_lenT, ev_ixL, ev_ixT, ev_at0, ev_at1, ev_at2, ev_i30, ev_i31, ev_i32, ev_pk1, ev_pk2, ev_pk3, ev_pk4, ev_pkw1, ev_pkw2, ev_pkv2, ev_isI, ev_isN, ev_isB, ev_inI, ev_inN, ev_inB, ev_listT, ev_listL, ev_tupT, ev_tupL, R.bind_ok, R.out_ok, Option.bind_some, List.getElem?_cons_succ, List.getElem?_cons_zero, List.set_cons_succ, List.set_cons_zero, List.length_cons, List.length_nil, Nat.reduceAdd, Nat.reduceEqDiff, List.getD_cons_succ, List.getD_cons_zero, decide_true, decide_false, Bool.and_true, Bool.and_self, and_self, true_and, List.all_cons, List.all_nil, Bool.not_true, Bool.not_false, if_true, Bool.true_eq_false, Bool.false_eq_true, if_false, rs_floor_floor, rs_floor_ceil, rs_floor_up, rs_floor_down, rs_floor_even, rs_floor_odd, rs_ceil_floor, rs_ceil_ceil, rs_ceil_up, rs_ceil_down, rs_ceil_even, rs_ceil_odd, rs_up_floor, rs_up_ceil, rs_up_up, rs_up_down, rs_up_even, rs_up_odd, rs_down_floor, rs_down_ceil, rs_down_up, rs_down_down, rs_down_even, rs_down_odd, rs_even_floor, rs_even_ceil, rs_even_up, rs_even_down, rs_even_even, rs_even_odd, rs_odd_floor, rs_odd_ceil, rs_odd_up, rs_odd_down, rs_odd_even, rs_odd_odd, Rl.s, ms, fd, rng4, ← ev_absI, a1, a2, a3, a4, s2, s4, m, f1, f3, f4, t, t2, ti]
      unfold mkIn
      rw [← hv, ← hL]
      dsimp only
      rw [if_neg (show ¬ v = 0 by omega), if_neg (show ¬ 2 * v ≠ s by omega)]
      rfl
    · have m := min2 L (s := s) (v := v) (by omega) (by omega)
      have f1 : decide (v + s = s - v) = false := decide_eq_false (by omega)
      have f2 : decide (v = s - v) = false := decide_eq_false (by omega)
      have f4 : decide (2 * s - v = s - v) = false := decide_eq_false (by omega)
      simp only [g__law_mark, ev_name, ev_c, ev_op2, ev_op1, ev_toR1, ev_toRL1, ev_nil, ev_cons, ev_opn, ev_opnN, ev_tup, ev_lst, ev_lstN, ev_new, ev_tst, ev_notT, ev_andT, ev_orT, ev_notF, ev_andF, ev_orF, ev_ifF, ev_yes, ev_iter, ev_rng1, ev_rng2, ev_rngW, ev_noP, ev_sl, ev_part, ev_next, ev_noG, ev_seq, ev_drop, ev_ret, ev_retN, ev_if, ev_asg, ev_setA, ev_nilA, ev_consA, ev_seqT, ev_seqL, ev_setN, ev_ok, ev_ioV, ev_ioU, ev_ioW, ev_owV, ev_owU, ev_own, ev_put, ev_ixOwn, ev_lenOwn, ev_setIx, ev_comp, ev_compL0, ev_compL1, ev_okC, ev_wipe1, ev_wipe0, ev_rest1, ev_rest0, ev_call, ev_callN, ev_ofr, ev_ofn, ev_ofnN, ev_io, ev_addI, ev_subI, ev_negI, ev_cmpI, ev_eqI, ev_neI, ev_eqS, ev_neS, ev_intI, ev_intB, ev_absI, ev_lenL, ev_lenT, ev_ixL, ev_ixT, ev_at0, ev_at1, ev_at2, ev_i30, ev_i31, ev_i32, ev_pk1, ev_pk2, ev_pk3, ev_pk4, ev_pkw1, ev_pkw2, ev_pkv2, ev_isI, ev_isN, ev_isB, ev_inI, ev_inN, ev_inB, ev_listT, ev_listL, ev_tupT, ev_tupL, R.bind_ok, R.out_ok, Option.bind_some, List.getElem?_cons_succ, List.getElem?_cons_zero, List.set_cons_succ, List.set_cons_zero, List.length_cons, List.length_nil, Nat.reduceAdd, Nat.reduceEqDiff, List.getD_cons_succ, List.getD_cons_zero, decide_true, decide_false, Bool.and_true, Bool.and_self, and_self, true_and, List.all_cons, List.all_nil, Bool.not_true, Bool.not_false, if_true, Bool.true_eq_false, Bool.false_eq_true, if_false, rs_floor_floor, rs_floor_ceil, rs_floor_up, rs_floor_down, rs_floor_even, rs_floor_odd, rs_ceil_floor, rs_ceil_ceil, rs_ceil_up, rs_ceil_down, rs_ceil_even, rs_ceil_odd, rs_up_floor, rs_up_ceil, rs_up_up, rs_up_down, rs_up_even, rs_up_odd, rs_down_floor, rs_down_ceil, rs_down_up, rs_down_down, rs_down_even, rs_down_odd, rs_even_floor, rs_even_ceil, rs_even_up, rs_even_down, rs_even_even, rs_even_odd, rs_odd_floor, rs_odd_ceil, rs_odd_up, rs_odd_down, rs_odd_even, rs_odd_odd, Rl.s, ms, fd, rng4, ← ev_absI, a1, a2, a3, a4, s2, s4, m, f1, f2, f4]
      unfold mkIn
      rw [← hv, ← hL]
      dsimp only
      rw [if_neg (show ¬ v = 0 by omega), if_pos (show 2 * v ≠ s by omega), if_pos (show s < 2 * v from c)]
      rfl
  | even =>
    have f1 : decide (v + s = v) = false := decide_eq_false (by omega)
    have f4 : decide (2 * s - v = v) = false := decide_eq_false (by omega)
    have t2 : decide (((2 : Nat) : Int) = 1) = false := rfl
    have ti : inD false (.str "even") (.tup [.str "up", .str "down"]) = some (.bl false) := rfl
    rcases Int.lt_trichotomy (2 * v) s with c | c | c
    · have m := min1 L (s := s) (v := v) (by omega) (by omega)
      have f3 : decide (s - v = v) = false := decide_eq_false (by omega)
      simp only [g__law_mark, ev_name, ev_c, ev_op2, ev_op1, ev_toR1, ev_toRL1, ev_nil, ev_cons, ev_opn, ev_opnN, ev_tup, ev_lst, ev_lstN, ev_new, ev_tst, ev_notT, ev_andT, ev_orT, ev_notF, ev_andF, ev_orF, ev_ifF, ev_yes, ev_iter, ev_rng1, ev_rng2, ev_rngW, ev_noP, ev_sl, ev_part, ev_next, ev_noG, ev_seq, ev_drop, ev_ret, ev_retN, ev_if, ev_asg, ev_setA, ev_nilA, ev_consA, ev_seqT, ev_seqL, ev_setN, ev_ok, ev_ioV, ev_ioU, ev_ioW, ev_owV, ev_owU, ev_own, ev_put, ev_ixOwn, ev_lenOwn, ev_setIx, ev_comp, ev_compL0, ev_compL1, ev_okC, ev_wipe1, ev_wipe0, ev_rest1, ev_rest0, ev_call, ev_callN, ev_ofr, ev_ofn, ev_ofnN, ev_io, ev_addI, ev_subI, ev_negI, ev_cmpI, ev_eqI, ev_neI, ev_eqS, ev_neS, ev_intI, ev_intB, ev_absI, ev_lenL, ev_lenT, ev_ixL, ev_ixT, ev_at0, ev_at1, ev_at2, ev_i30, ev_i31, ev_i32, ev_pk1, ev_pk2, ev_pk3, ev_pk4, ev_pkw1, ev_pkw2, ev_pkv2, ev_isI, ev_isN, ev_isB, ev_inI, ev_inN, ev_inB, ev_listT, ev_listL, ev_tupT, ev_tupL, R.bind_ok, R.out_ok, Option.bind_some, List.getElem?_cons_succ, List.getElem?_cons_zero, List.set_cons_succ, List.set_cons_zero, List.length_cons, List.length_nil, Nat.reduceAdd, Nat.reduceEqDiff, List.getD_cons_succ, List.getD_cons_zero, decide_true, decide_false, Bool.and_true, Bool.and_self, and_self, true_and, List.all_cons, List.all_nil, Bool.not_true, Bool.not_false, if_true, Bool.true_eq_false, Bool.false_eq_true, if_false, rs_floor_floor, rs_floor_ceil, rs_floor_up, rs_floor_down, rs_floor_even, rs_floor_odd, rs_ceil_floor, rs_ceil_ceil, rs_ceil_up, rs_ceil_down, rs_ceil_even, rs_ceil_odd, rs_up_floor, rs_up_ceil, rs_up_up, rs_up_down, rs_up_even, rs_up_odd, rs_down_floor, rs_down_ceil, rs_down_up, rs_down_down, rs_down_even, rs_down_odd, rs_even_floor, rs_even_ceil, rs_even_up, rs_even_down, rs_even_even, rs_even_odd, rs_odd_floor, rs_odd_ceil, rs_odd_up, rs_odd_down, rs_odd_even, rs_odd_odd, Rl.s, ms, fd, rng4, ← ev_absI, a1, a2, a3, a4, s2, s4, m, f1, f3, f4]
      unfold mkIn
      rw [← hv, ← hL]
      dsimp only
      have e : (if v = 0 then L else if 2 * v ≠ s then L + (if s < 2 * v then 1 else 0) else L + L % 2) = L := by
        split
        · rfl
        · rw [if_pos (by omega), if_neg (by omega), Int.add_zero]
      rw [e]
      rfl
    · have m := min1 L (s := s) (v := v) (by omega) (by omega)
      have f3 : decide (s - v = v) = true := decide_eq_true (by omega)
      have em : ∀ x : Int, modD (.int x) (.int 2) = some (.int (x % 2)) := fun x => ev_modI (by decide)
      rcases (show L % 2 = 0 ∨ L % 2 = 1 by omega) with hm | hm
      · have u1 : decide (L % 2 = 0) = true := decide_eq_true (by omega)
        have u2 : decide ((L + 1) % 2 = 0) = false := decide_eq_false (by omega)
        simp only [g__law_mark, ev_name, ev_c, ev_op2, ev_op1, ev_toR1, ev_toRL1, ev_nil, ev_cons, ev_opn, ev_opnN, ev_tup, ev_lst, ev_lstN, ev_new, ev_tst, ev_notT, ev_andT, ev_orT, ev_notF, ev_andF, ev_orF, ev_ifF, ev_yes, ev_iter, ev_rng1, ev_rng2, ev_rngW, ev_noP, ev_sl, ev_part, ev_next, ev_noG, ev_seq, ev_drop, ev_ret, ev_retN, ev_if, ev_asg, ev_setA, ev_nilA, ev_consA, ev_seqT, ev_seqL, ev_setN, ev_ok, ev_ioV, ev_ioU, ev_ioW, ev_owV, ev_owU, ev_own, ev_put, ev_ixOwn, ev_lenOwn, ev_setIx, ev_comp, ev_compL0, ev_compL1, ev_okC, ev_wipe1, ev_wipe0, ev_rest1, ev_rest0, ev_call, ev_callN, ev_ofr, ev_ofn, ev_ofnN, ev_io, ev_addI, ev_subI, ev_negI, ev_cmpI, ev_eqI, ev_neI, ev_eqS, ev_neS, ev_intI, ev_intB, ev_absI, ev_lenL, ev_lenT, ev_ixL, ev_ixT, ev_at0, ev_at1, ev_at2, ev_i30, ev_i31, ev_i32, ev_pk1, ev_pk2, ev_pk3, ev_pk4, ev_pkw1, ev_pkw2, ev_pkv2, ev_isI, ev_isN, ev_isB, ev_inI, ev_inN, ev_inB, ev_listT, ev_listL, ev_tupT, ev_tupL, R.bind_ok, R.out_ok, Option.bind_some, List.getElem?_cons_succ, List.getElem?_cons_zero, List.set_cons_succ, List.set_cons_zero, List.length_cons, List.length_nil, Nat.reduceAdd, Nat.reduceEqDiff, List.getD_cons_succ, List.getD_cons_zero, decide_true, decide_false, Bool.and_true, Bool.and_self, and_self, true_and, List.all_cons, List.all_nil, Bool.not_true, Bool.not_false, if_true, Bool.true_eq_false, Bool.false_eq_true, if_false, rs_floor_floor, rs_floor_ceil, rs_floor_up, rs_floor_down, rs_floor_even, rs_floor_odd, rs_ceil_floor, rs_ceil_ceil, rs_ceil_up, rs_ceil_down, rs_ceil_even, rs_ceil_odd, rs_up_floor, rs_up_ceil, rs_up_up, rs_up_down, rs_up_even, rs_up_odd, rs_down_floor, rs_down_ceil, rs_down_up, rs_down_down, rs_down_even, rs_down_odd, rs_even_floor, rs_even_ceil, rs_even_up, rs_even_down, rs_even_even, rs_even_odd, rs_odd_floor, rs_odd_ceil, rs_odd_up, rs_odd_down, rs_odd_even, rs_odd_odd, Rl.s, ms, fd, rng4, ← ev_absI, a1, a2, a3, a4, s2, s4, m, f1, f3, f4, t2, ti, em, u1, u2]
        unfold mkIn
        rw [← hv, ← hL]
        dsimp only
        rw [if_neg (show ¬ v = 0 by omega), if_neg (show ¬ 2 * v ≠ s by omega)]
        have e : L + L % 2 = L := by omega
        rw [e]
        rfl
      · have u1 : decide (L % 2 = 0) = false := decide_eq_false (by omega)
        have u2 : decide ((L + 1) % 2 = 0) = true := decide_eq_true (by omega)
        simp only [g__law_mark, ev_name, ev_c, ev_op2, ev_op1, ev_toR1, ev_toRL1, ev_nil, ev_cons, ev_opn, ev_opnN, ev_tup, ev_lst, ev_lstN, ev_new, ev_tst, ev_notT, ev_andT, ev_orT, ev_notF, ev_andF, ev_orF, ev_ifF, ev_yes, ev_iter, ev_rng1, ev_rng2, ev_rngW, ev_noP, ev_sl, ev_part, ev_next, ev_noG, ev_seq, ev_drop, ev_ret, ev_retN, ev_if, ev_asg, ev_setA, ev_nilA, ev_consA, ev_seqT, ev_seqL, ev_setN, ev_ok, ev_ioV, ev_ioU, ev_ioW, ev_owV, ev_owU, ev_own, ev_put, ev_ixOwn, ev_lenOwn, ev_setIx, ev_comp, ev_compL0, ev_compL1, ev_okC, ev_wipe1, ev_wipe0, ev_rest1, ev_rest0, ev_call, ev_callN, ev_ofr, ev_ofn, ev_ofnN, ev_io, ev_addI, ev_subI, ev_negI, ev_cmpI, ev_eqI, ev_neI, ev_eqS, ev_neS, ev_intI, ev_intB, ev_absI, ev_lenL, ev_lenT, ev_ixL, ev_ixT, ev_at0, ev_at1, ev_at2, ev_i30, ev_i31, ev_i32, ev_pk1, ev_pk2, ev_pk3, ev_pk4, ev_pkw1, ev_pkw2, ev_pkv2, ev_isI, ev_isN, ev_isB, ev_inI, ev_inN, ev_inB, ev_listT, ev_listL, ev_tupT, ev_tupL, R.bind_ok, R.out_ok, Option.bind_some, List.getElem?_cons_succ, List.getElem?_cons_zero, List.set_cons_succ, List.set_cons_zero, List.length_cons, List.length_nil, Nat.reduceAdd, Nat.reduceEqDiff, List.getD_cons_succ, List.getD_cons_zero, decide_true, decide_false, Bool.and_true, Bool.and_self, and_self, true_and, List.all_cons, List.all_nil, Bool.not_true, Bool.not_false, if_true, Bool.true_eq_false, Bool.false_eq_true, if_false, rs_floor_floor, rs_floor_ceil, rs_floor_up, rs_floor_down, rs_floor_even, rs_floor_odd, rs_ceil_floor, rs_ceil_ceil, rs_ceil_up, rs_ceil_down, rs_ceil_even, rs_ceil_odd, rs_up_floor, rs_up_ceil, rs_up_up, rs_up_down, rs_up_even, rs_up_odd, rs_down_floor, rs_down_ceil, rs_down_up, rs_down_down, rs_down_even, rs_down_odd, rs_even_floor, rs_even_ceil, rs_even_up, rs_even_down, rs_even_even, rs_even_odd, rs_odd_floor, rs_odd_ceil, rs_odd_up, rs_odd_down, rs_odd_even, rs_odd_odd, Rl.s, ms, fd, rng4, ← ev_absI, a1, a2, a3, a4, s2, s4, m, f1, f3, f4, t2, ti, em, u1, u2]
        unfold mkIn
        rw [← hv, ← hL]
        dsimp only
        rw [if_neg (show ¬ v = 0 by omega), if_neg (show ¬ 2 * v ≠ s by omega)]
        have e : L + L % 2 = L + 1 := by omega
        rw [e]
        rfl
    · have m := min2 L (s := s) (v := v) (by omega) (by omega)
      have f1 : decide (v + s = s - v) = false := decide_eq_false (by omega)
      have f2 : decide (v = s - v) = false := decide_eq_false (by omega)
      have f4 : decide (2 * s - v = s - v) = false := decide_eq_false (by omega)
      simp only [g__law_mark, ev_name, ev_c, ev_op2, ev_op1, ev_toR1, ev_toRL1, ev_nil, ev_cons, ev_opn, ev_opnN, ev_tup, ev_lst, ev_lstN, ev_new, ev_tst, ev_notT, ev_andT, ev_orT, ev_notF, ev_andF, ev_orF, ev_ifF, ev_yes, ev_iter, ev_rng1, ev_rng2, ev_rngW, ev_noP, ev_sl, ev_part, ev_next, ev_noG, ev_seq, ev_drop, ev_ret, ev_retN, ev_if, ev_asg, ev_setA, ev_nilA, ev_consA, ev_seqT, ev_seqL, ev_setN, ev_ok, ev_ioV, ev_ioU, ev_ioW, ev_owV, ev_owU, ev_own, ev_put, ev_ixOwn, ev_lenOwn, ev_setIx, ev_comp, ev_compL0, ev_compL1, ev_okC, ev_wipe1, ev_wipe0, ev_rest1, ev_rest0, ev_call, ev_callN, ev_ofr, ev_ofn, ev_ofnN, ev_io, ev_addI, ev_subI, ev_negI, ev_cmpI, ev_eqI, ev_neI, ev_eqS, ev_neS, ev_intI, ev_intB, ev_absI, ev_lenL, ev_lenT, ev_ixL, ev_ixT, ev_at0, ev_at1, ev_at2, ev_i30, ev_i31, ev_i32, ev_pk1, ev_pk2, ev_pk3, ev_pk4, ev_pkw1, ev_pkw2, ev_pkv2, ev_isI, ev_isN, ev_isB, ev_inI, ev_inN, ev_inB, ev_listT, ev_listL, ev_tupT, ev_tupL, R.bind_ok, R.out_ok, Option.bind_some, List.getElem?_cons_succ, List.getElem?_cons_zero, List.set_cons_succ, List.set_cons_zero, List.length_cons, List.length_nil, Nat.reduceAdd, Nat.reduceEqDiff, List.getD_cons_succ, List.getD_cons_zero, decide_true, decide_false, Bool.and_true, Bool.and_self, and_self, true_and, List.all_cons, List.all_nil, Bool.not_true, Bool.not_false, if_true, Bool.true_eq_false, Bool.false_eq_true, if_false, rs_floor_floor, rs_floor_ceil, rs_floor_up, rs_floor_down, rs_floor_even, rs_floor_odd, rs_ceil_floor, rs_ceil_ceil, rs_ceil_up, rs_ceil_down, rs_ceil_even, rs_ceil_odd, rs_up_floor, rs_up_ceil, rs_up_up, rs_up_down, rs_up_even, rs_up_odd, rs_down_floor, rs_down_ceil, rs_down_up, rs_down_down, rs_down_even, rs_down_odd, rs_even_floor, rs_even_ceil, rs_even_up, rs_even_down, rs_even_even, rs_even_odd, rs_odd_floor, rs_odd_ceil, rs_odd_up, rs_odd_down, rs_odd_even, rs_odd_odd, Rl.s, ms, fd, rng4, ← ev_absI, a1, a2, a3, a4, s2, s4, m, f1, f2, f4]
      unfold mkIn
      rw [← hv, ← hL]
      dsimp only
      rw [if_neg (show ¬ v = 0 by omega), if_pos (show 2 * v ≠ s by omega), if_pos (show s < 2 * v from c)]
      rfl
  | odd =>
    have f1 : decide (v + s = v) = false := decide_eq_false (by omega)
    have f4 : decide (2 * s - v = v) = false := decide_eq_false (by omega)
    have t2 : decide (((2 : Nat) : Int) = 1) = false := rfl
    have ti : inD false (.str "odd") (.tup [.str "up", .str "down"]) = some (.bl false) := rfl
    rcases Int.lt_trichotomy (2 * v) s with c | c | c
    · have m := min1 L (s := s) (v := v) (by omega) (by omega)
      have f3 : decide (s - v = v) = false := decide_eq_false (by omega)
      simp only [g__law_mark, ev_name, ev_c, ev_op2, ev_op1, ev_toR1, ev_toRL1, ev_nil, ev_cons, ev_opn, ev_opnN, ev_tup, ev_lst, ev_lstN, ev_new, ev_tst, ev_notT, ev_andT, ev_orT, ev_notF, ev_andF, ev_orF, ev_ifF, ev_yes, ev_iter, ev_rng1, ev_rng2, ev_rngW, ev_noP, ev_sl, ev_part, ev_next, ev_noG, ev_seq, ev_drop, ev_ret, ev_retN, ev_if, ev_asg, ev_setA, ev_nilA, ev_consA, ev_seqT, ev_seqL, ev_setN, ev_ok, ev_ioV, ev_ioU, ev_ioW, ev_owV, ev_owU, ev_own, ev_put, ev_ixOwn, ev_lenOwn, ev_setIx, ev_comp, ev_compL0, ev_compL1, ev_okC, ev_wipe1, ev_wipe0, ev_rest1, ev_rest0, ev_call, ev_callN, ev_ofr, ev_ofn, ev_ofnN, ev_io, ev_addI, ev_subI, ev_negI, ev_cmpI, ev_eqI, ev_neI, ev_eqS, ev_neS, ev_intI, ev_intB, ev_absI, ev_lenL, ev_lenT, ev_ixL, ev_ixT, ev_at0, ev_at1, ev_at2, ev_i30, ev_i31, ev_i32, ev_pk1, ev_pk2, ev_pk3, ev_pk4, ev_pkw1, ev_pkw2, ev_pkv2, ev_isI, ev_isN, ev_isB, ev_inI, ev_inN, ev_inB, ev_listT, ev_listL, ev_tupT, ev_tupL, R.bind_ok, R.out_ok, Option.bind_some, List.getElem?_cons_succ, List.getElem?_cons_zero, List.set_cons_succ, List.set_cons_zero, List.length_cons, List.length_nil, Nat.reduceAdd, Nat.reduceEqDiff, List.getD_cons_succ, List.getD_cons_zero, decide_true, decide_false, Bool.and_true, Bool.and_self, and_self, true_and, List.all_cons, List.all_nil, Bool.not_true, Bool.not_false, if_true, Bool.true_eq_false, Bool.false_eq_true, if_false, rs_floor_floor, rs_floor_ceil, rs_floor_up, rs_floor_down, rs_floor_even, rs_floor_odd, rs_ceil_floor, rs_ceil_ceil, rs_ceil_up, rs_ceil_down, rs_ceil_even, rs_ceil_odd, rs_up_floor, rs_up_ceil, rs_up_up, rs_up_down, rs_up_even, rs_up_odd, rs_down_floor, rs_down_ceil, rs_down_up, rs_down_down, rs_down_even, rs_down_odd, rs_even_floor, rs_even_ceil, rs_even_up, rs_even_down, rs_even_even, rs_even_odd, rs_odd_floor, rs_odd_ceil, rs_odd_up, rs_odd_down, rs_odd_even, rs_odd_odd, Rl.s, ms, fd, rng4, ← ev_absI, a1, a2, a3, a4, s2, s4, m, f1, f3, f4]
      unfold mkIn
      rw [← hv, ← hL]
      dsimp only
      have e : (if v = 0 then L else if 2 * v ≠ s then L + (if s < 2 * v then 1 else 0) else L + 1 - L % 2) = L := by
        split
        · rfl
        · rw [if_pos (by omega), if_neg (by omega), Int.add_zero]
      rw [e]
      rfl
    · have m := min1 L (s := s) (v := v) (by omega) (by omega)
      have f3 : decide (s - v = v) = true := decide_eq_true (by omega)
      have em : ∀ x : Int, modD (.int x) (.int 2) = some (.int (x % 2)) := fun x => ev_modI (by decide)
      rcases (show L % 2 = 0 ∨ L % 2 = 1 by omega) with hm | hm
      · have u1 : decide (L % 2 = 1) = false := decide_eq_false (by omega)
        have u2 : decide ((L + 1) % 2 = 1) = true := decide_eq_true (by omega)
        simp only [g__law_mark, ev_name, ev_c, ev_op2, ev_op1, ev_toR1, ev_toRL1, ev_nil, ev_cons, ev_opn, ev_opnN, ev_tup, ev_lst, ev_lstN, ev_new, ev_tst, ev_notT, ev_andT, ev_orT, ev_notF, ev_andF, ev_orF, ev_ifF, ev_yes, ev_iter, ev_rng1, ev_rng2, ev_rngW, ev_noP, ev_sl, ev_part, ev_next, ev_noG, ev_seq, ev_drop, ev_ret, ev_retN, ev_if, ev_asg, ev_setA, ev_nilA, ev_consA, ev_seqT, ev_seqL, ev_setN, ev_ok, ev_ioV, ev_ioU, ev_ioW, ev_owV, ev_owU, ev_own, ev_put, ev_ixOwn, ev_lenOwn, ev_setIx, ev_comp, ev_compL0, ev_compL1, ev_okC, ev_wipe1, ev_wipe0, ev_rest1, ev_rest0, ev_call, ev_callN, ev_ofr, ev_ofn, ev_ofnN, ev_io, ev_addI, ev_subI, ev_negI, ev_cmpI, ev_eqI, ev_neI, ev_eqS, ev_neS, ev_intI, ev_intB, ev_absI, ev_lenL, ev_lenT, ev_ixL, ev_ixT, ev_at0, ev_at1, ev_at2, ev_i30, ev_i31, ev_i32, ev_pk1, ev_pk2, ev_pk3, ev_pk4, ev_pkw1, ev_pkw2, ev_pkv2, ev_isI, ev_isN, ev_isB, ev_inI, ev_inN, ev_inB, ev_listT, ev_listL, ev_tupT, ev_tupL, R.bind_ok, R.out_ok, Option.bind_some, List.getElem?_cons_succ, List.getElem?_cons_zero, List.set_cons_succ, List.set_cons_zero, List.length_cons, List.length_nil, Nat.reduceAdd, Nat.reduceEqDiff, List.getD_cons_succ, List.getD_cons_zero, decide_true, decide_false, Bool.and_true, Bool.and_self, and_self, true_and, List.all_cons, List.all_nil, Bool.not_true, Bool.not_false, if_true, Bool.true_eq_false, Bool.false_eq_true, if_false, rs_floor_floor, rs_floor_ceil, rs_floor_up, rs_floor_down, rs_floor_even, rs_floor_odd, rs_ceil_floor, rs_ceil_ceil, rs_ceil_up, rs_ceil_down, rs_ceil_even, rs_ceil_odd, rs_up_floor, rs_up_ceil, rs_up_up, rs_up_down, rs_up_even, rs_up_odd, rs_down_floor, rs_down_ceil, rs_down_up, rs_down_down, rs_down_even, rs_down_odd, rs_even_floor, rs_even_ceil, rs_even_up, rs_even_down, rs_even_even, rs_even_odd, rs_odd_floor, rs_odd_ceil, rs_odd_up, rs_odd_down, rs_odd_even, rs_odd_odd, Rl.s, ms, fd, rng4, ← ev_absI, a1, a2, a3, a4, s2, s4, m, f1, f3, f4, t2, ti, em, u1, u2]
        unfold mkIn
        rw [← hv, ← hL]
        dsimp only
        rw [if_neg (show ¬ v = 0 by omega), if_neg (show ¬ 2 * v ≠ s by omega)]
        have e : L + 1 - L % 2 = L + 1 := by omega
        rw [e]
        rfl
      · have u1 : decide (L % 2 = 1) = true := decide_eq_true (by omega)
        have u2 : decide ((L + 1) % 2 = 1) = false := decide_eq_false (by omega)
        simp only [g__law_mark, ev_name, ev_c, ev_op2, ev_op1, ev_toR1, ev_toRL1, ev_nil, ev_cons, ev_opn, ev_opnN, ev_tup, ev_lst, ev_lstN, ev_new, ev_tst, ev_notT, ev_andT, ev_orT, ev_notF, ev_andF, ev_orF, ev_ifF, ev_yes, ev_iter, ev_rng1, ev_rng2, ev_rngW, ev_noP, ev_sl, ev_part, ev_next, ev_noG, ev_seq, ev_drop, ev_ret, ev_retN, ev_if, ev_asg, ev_setA, ev_nilA, ev_consA, ev_seqT, ev_seqL, ev_setN, ev_ok, ev_ioV, ev_ioU, ev_ioW, ev_owV, ev_owU, ev_own, ev_put, ev_ixOwn, ev_lenOwn, ev_setIx, ev_comp, ev_compL0, ev_compL1, ev_okC, ev_wipe1, ev_wipe0, ev_rest1, ev_rest0, ev_call, ev_callN, ev_ofr, ev_ofn, ev_ofnN, ev_io, ev_addI, ev_subI, ev_negI, ev_cmpI, ev_eqI, ev_neI, ev_eqS, ev_neS, ev_intI, ev_intB, ev_absI, ev_lenL, ev_lenT, ev_ixL, ev_ixT, ev_at0, ev_at1, ev_at2, ev_i30, ev_i31, ev_i32, ev_pk1, ev_pk2, ev_pk3, ev_pk4, ev_pkw1, ev_pkw2, ev_pkv2, ev_isI, ev_isN, ev_isB, ev_inI, ev_inN, ev_inB, ev_listT, ev_listL, ev_tupT, ev_tupL, R.bind_ok, R.out_ok, Option.bind_some, List.getElem?_cons_succ, List.getElem?_cons_zero, List.set_cons_succ, List.set_cons_zero, List.length_cons, List.length_nil, Nat.reduceAdd, Nat.reduceEqDiff, List.getD_cons_succ, List.getD_cons_zero, decide_true, decide_false, Bool.and_true, Bool.and_self, and_self, true_and, List.all_cons, List.all_nil, Bool.not_true, Bool.not_false, if_true, Bool.true_eq_false, Bool.false_eq_true, if_false, rs_floor_floor, rs_floor_ceil, rs_floor_up, rs_floor_down, rs_floor_even, rs_floor_odd, rs_ceil_floor, rs_ceil_ceil, rs_ceil_up, rs_ceil_down, rs_ceil_even, rs_ceil_odd, rs_up_floor, rs_up_ceil, rs_up_up, rs_up_down, rs_up_even, rs_up_odd, rs_down_floor, rs_down_ceil, rs_down_up, rs_down_down, rs_down_even, rs_down_odd, rs_even_floor, rs_even_ceil, rs_even_up, rs_even_down, rs_even_even, rs_even_odd, rs_odd_floor, rs_odd_ceil, rs_odd_up, rs_odd_down, rs_odd_even, rs_odd_odd, Rl.s, ms, fd, rng4, ← ev_absI, a1, a2, a3, a4, s2, s4, m, f1, f3, f4, t2, ti, em, u1, u2]
        unfold mkIn
        rw [← hv, ← hL]
        dsimp only
        rw [if_neg (show ¬ v = 0 by omega), if_neg (show ¬ 2 * v ≠ s by omega)]
        have e : L + 1 - L % 2 = L := by omega
        rw [e]
        rfl
    · have m := min2 L (s := s) (v := v) (by omega) (by omega)
      have f1 : decide (v + s = s - v) = false := decide_eq_false (by omega)
      have f2 : decide (v = s - v) = false := decide_eq_false (by omega)
      have f4 : decide (2 * s - v = s - v) = false := decide_eq_false (by omega)
      simp only [g__law_mark, ev_name, ev_c, ev_op2, ev_op1, ev_toR1, ev_toRL1, ev_nil, ev_cons, ev_opn, ev_opnN, ev_tup, ev_lst, ev_lstN, ev_new, ev_tst, ev_notT, ev_andT, ev_orT, ev_notF, ev_andF, ev_orF, ev_ifF, ev_yes, ev_iter, ev_rng1, ev_rng2, ev_rngW, ev_noP, ev_sl, ev_part, ev_next, ev_noG, ev_seq, ev_drop, ev_ret, ev_retN, ev_if, ev_asg, ev_setA, ev_nilA, ev_consA, ev_seqT, ev_seqL, ev_setN, ev_ok, ev_ioV, ev_ioU, ev_ioW, ev_owV, ev_owU, ev_own, ev_put, ev_ixOwn, ev_lenOwn, ev_setIx, ev_comp, ev_compL0, ev_compL1, ev_okC, ev_wipe1, ev_wipe0, ev_rest1, ev_rest0, ev_call, ev_callN, ev_ofr, ev_ofn, ev_ofnN, ev_io, ev_addI, ev_subI, ev_negI, ev_cmpI, ev_eqI, ev_neI, ev_eqS, ev_neS, ev_intI, ev_intB, ev_absI, ev_lenL, ev_lenT, ev_ixL, ev_ixT, ev_at0, ev_at1, ev_at2, ev_i30, ev_i31, ev_i32, ev_pk1, ev_pk2, ev_pk3, ev_pk4, ev_pkw1, ev_pkw2, ev_pkv2, ev_isI, ev_isN, ev_isB, ev_inI, ev_inN, ev_inB, ev_listT, ev_listL, ev_tupT, ev_tupL, R.bind_ok, R.out_ok, Option.bind_some, List.getElem?_cons_succ, List.getElem?_cons_zero, List.set_cons_succ, List.set_cons_zero, List.length_cons, List.length_nil, Nat.reduceAdd, Nat.reduceEqDiff, List.getD_cons_succ, List.getD_cons_zero, decide_true, decide_false, Bool.and_true, Bool.and_self, and_self, true_and, List.all_cons, List.all_nil, Bool.not_true, Bool.not_false, if_true, Bool.true_eq_false, Bool.false_eq_true, if_false, rs_floor_floor, rs_floor_ceil, rs_floor_up, rs_floor_down, rs_floor_even, rs_floor_odd, rs_ceil_floor, rs_ceil_ceil, rs_ceil_up, rs_ceil_down, rs_ceil_even, rs_ceil_odd, rs_up_floor, rs_up_ceil, rs_up_up, rs_up_down, rs_up_even, rs_up_odd, rs_down_floor, rs_down_ceil, rs_down_up, rs_down_down, rs_down_even, rs_down_odd, rs_even_floor, rs_even_ceil, rs_even_up, rs_even_down, rs_even_even, rs_even_odd, rs_odd_floor, rs_odd_ceil, rs_odd_up, rs_odd_down, rs_odd_even, rs_odd_odd, Rl.s, ms, fd, rng4, ← ev_absI, a1, a2, a3, a4, s2, s4, m, f1, f2, f4]
      unfold mkIn
      rw [← hv, ← hL]
      dsimp only
      rw [if_neg (show ¬ v = 0 by omega), if_pos (show 2 * v ≠ s by omega), if_pos (show s < 2 * v from c)]
      rfl
end Fx

set_option Elab.async false
set_option linter.all false
set_option maxRecDepth 100000
set_option exponentiation.threshold 3000
namespace Fx
open PySem L2 PyProof.Rows
/-! ### the rounding, in numbers -/
section
variable {s o n m : Int} {r : Rl}
theorem mk_two : mkIn s o n r = (n - o) / s ∨ (mkIn s o n r = (n - o) / s + 1 ∧ (n - o) % s ≠ 0) := by
  unfold mkIn
  cases r with
  | floor => exact .inl rfl
  | ceil =>
    dsimp only
    split
    · exact .inl rfl
    · rename_i h
      exact .inr ⟨rfl, h⟩
  | _ =>
    dsimp only
    split
    · exact .inl rfl
    · rename_i h
      split
      · split
        · exact .inr ⟨rfl, h⟩
        · exact .inl (Int.add_zero _)
      · first
          | exact .inl rfl
          | exact .inr ⟨rfl, h⟩
          | (rcases (show (n - o) / s % 2 = 0 ∨ (n - o) / s % 2 = 1 by omega) with e | e
             · first
                 | exact .inl (by omega)
                 | exact .inr ⟨by omega, h⟩
             · first
                 | exact .inl (by omega)
                 | exact .inr ⟨by omega, h⟩)
theorem mk_on (h1 : 1 ≤ s) (p : Int) : mkIn s o (o + s * p) r = p := by
  have e : o + s * p - o = s * p := by omega
  have e1 : (o + s * p - o) % s = 0 := by rw [e]; exact Int.mul_emod_right s p
  have e2 : (o + s * p - o) / s = p := by rw [e]; exact Int.mul_ediv_cancel_left p (by omega)
  rcases mk_two (s := s) (o := o) (n := o + s * p) (r := r) with h | ⟨_, h⟩
  · rw [h, e2]
  · exact absurd e1 h
theorem mk_mono (h1 : 1 ≤ s) (h : n ≤ m) : mkIn s o n r ≤ mkIn s o m r := by
  have hd : (n - o) / s ≤ (m - o) / s := Int.ediv_le_ediv (by omega) (by omega)
  have v0 : 0 ≤ (n - o) % s := Int.emod_nonneg _ (by omega)
  have v1 : (n - o) % s < s := Int.emod_lt_of_pos _ (by omega)
  have w0 : 0 ≤ (m - o) % s := Int.emod_nonneg _ (by omega)
  have w1 : (m - o) % s < s := Int.emod_lt_of_pos _ (by omega)
  by_cases he : (n - o) / s = (m - o) / s
  · have en := Int.mul_ediv_add_emod (n - o) s
    have em := Int.mul_ediv_add_emod (m - o) s
    have hv : (n - o) % s ≤ (m - o) % s := by
      rw [he] at en
      omega
    unfold mkIn
    rw [he]
    generalize (m - o) / s = L at *
    generalize (n - o) % s = v at *
    generalize (m - o) % s = w at *
    cases r with
    | floor => exact Int.le_refl _
    | ceil =>
      dsimp only
      split <;> split <;> omega
    | up =>
      dsimp only
      split <;> split <;> (try split) <;> (try split) <;> (try split) <;> (try split) <;> omega
    | down =>
      dsimp only
      split <;> split <;> (try split) <;> (try split) <;> (try split) <;> (try split) <;> omega
    | even =>
      dsimp only
      split <;> split <;> (try split) <;> (try split) <;> (try split) <;> (try split) <;> omega
    | odd =>
      dsimp only
      split <;> split <;> (try split) <;> (try split) <;> (try split) <;> (try split) <;> omega
  · rcases mk_two (s := s) (o := o) (n := n) (r := r) with a | ⟨a, _⟩ <;> rcases mk_two (s := s) (o := o) (n := m) (r := r) with b | ⟨b, _⟩ <;> omega
theorem mk_pt (h1 : 1 ≤ s) : decide ((n - o) % s = 0) = decide (n = o + s * mkIn s o n r) := by
  have en := Int.mul_ediv_add_emod (n - o) s
  refine decide_eq_decide.mpr ⟨fun h => ?_, fun h => ?_⟩
  · rcases mk_two (s := s) (o := o) (n := n) (r := r) with a | ⟨_, a⟩
    · rw [a]
      omega
    · exact absurd h a
  · rw [h]
    have e : o + s * mkIn s o n r - o = s * mkIn s o n r := by omega
    rw [e]
    exact Int.mul_emod_right s _
theorem mk_big (h1 : 1 ≤ s) (h2 : s ≤ 999) (h3 : 0 ≤ o) (h4 : o < s) (hb : Big n) : (mkIn s o n r).natAbs.log2 < 1920 ∧ (o + s * mkIn s o n r).natAbs.log2 < 1920 := by
  obtain ⟨b1, b2⟩ := hb
  have en := Int.mul_ediv_add_emod (n - o) s
  have v0 : 0 ≤ (n - o) % s := Int.emod_nonneg _ (by omega)
  have v1 : (n - o) % s < s := Int.emod_lt_of_pos _ (by omega)
  have lg : ∀ x : Int, -(10 ^ 40) ≤ x → x ≤ 10 ^ 40 → x.natAbs.log2 < 1920 := fun x h h' => by
    rcases Nat.eq_zero_or_pos x.natAbs with h0 | h0
    · rw [h0]
      decide
    · refine (Nat.log2_lt (by omega)).mpr (Nat.lt_of_le_of_lt (m := 10 ^ 40) (by omega) ?_)
      exact Nat.lt_of_lt_of_le (m := 2 ^ 140) (by decide) (Nat.pow_le_pow_right (by decide) (by decide))
  have q1 : s * ((n - o) / s) ≤ 10 ^ 36 := by omega
  have q2 : -(10 ^ 36) - 2000 ≤ s * ((n - o) / s) := by omega
  have l1 : (n - o) / s ≤ 10 ^ 36 := by
    rcases Int.le_total ((n - o) / s) 0 with h | h
    · omega
    · have := Int.mul_le_mul_of_nonneg_right h1 h
      omega
  have l2 : -(10 ^ 36) - 2000 ≤ (n - o) / s := by
    rcases Int.le_total 0 ((n - o) / s) with h | h
    · omega
    · have := Int.mul_le_mul_of_nonpos_right h1 h
      omega
  rcases mk_two (s := s) (o := o) (n := n) (r := r) with a | ⟨a, _⟩
  · rw [a]
    exact ⟨lg _ (by omega) (by omega), lg _ (by omega) (by omega)⟩
  · rw [a, Int.mul_add, Int.mul_one]
    exact ⟨lg _ (by omega) (by omega), lg _ (by omega) (by omega)⟩
end
theorem rules_ne : neD (.tup [.str "floor", .str "ceil", .str "up", .str "down", .str "even", .str "odd"]) (.tup [.str "floor", .str "ceil", .str "up", .str "down", .str "even", .str "odd"]) = some (.bl false) := by
  have sh : SeqAt.shaped (.tuple [.str "floor", .str "ceil", .str "up", .str "down", .str "even", .str "odd"]) = true := by decide +kernel
  have ev : PyData.eqv (.tuple [.str "floor", .str "ceil", .str "up", .str "down", .str "even", .str "odd"]) (.tuple [.str "floor", .str "ceil", .str "up", .str "down", .str "even", .str "odd"]) = true := by decide +kernel
  have e0 : neD (.tup [.str "floor", .str "ceil", .str "up", .str "down", .str "even", .str "odd"]) (.tup [.str "floor", .str "ceil", .str "up", .str "down", .str "even", .str "odd"]) = neG (.tup [.str "floor", .str "ceil", .str "up", .str "down", .str "even", .str "odd"]) (.tup [.str "floor", .str "ceil", .str "up", .str "down", .str "even", .str "odd"]) := by unfold neD; rfl
  rw [e0]
  have e : toPy (.tup [.str "floor", .str "ceil", .str "up", .str "down", .str "even", .str "odd"]) = some (.tuple [.str "floor", .str "ceil", .str "up", .str "down", .str "even", .str "odd"]) := rfl
  unfold neG
  rw [e]
  dsimp only
  rw [if_pos ⟨sh, sh⟩, ev]
  rfl
theorem pen0 {ns : List Int} (h : ns.length ≤ 63) : F__law_pen [.fz (ns.map D.int)] = .retn [.lst (ns.map D.int), .int 0, .int 0] [] := by
  have e : slD (.fz (ns.map D.int)) none (some 63) = some (.lst (ns.map D.int)) := by
    show some (D.lst (cutD (ns.map D.int) none (some 63))) = _
    unfold cutD
    rw [HT.sIx_none, show HT.sIx (ns.map D.int).length (ns.map D.int).length (some 63) = min 63 (ns.map D.int).length from HT.sIx_nat _ _ 63, List.drop_zero, Nat.sub_zero, List.take_of_length_le (by rw [List.length_map]; omega)]
  show outF false (g__law_pen [.va (.fz (ns.map D.int))]) = _
  simp only [g__law_pen, ev_name, ev_c, ev_op2, ev_op1, ev_toR1, ev_toRL1, ev_nil, ev_cons, ev_opn, ev_opnN, ev_tup, ev_lst, ev_lstN, ev_new, ev_tst, ev_notT, ev_andT, ev_orT, ev_notF, ev_andF, ev_orF, ev_ifF, ev_yes, ev_iter, ev_rng1, ev_rng2, ev_rngW, ev_noP, ev_sl, ev_part, ev_next, ev_noG, ev_seq, ev_drop, ev_ret, ev_retN, ev_if, ev_asg, ev_setA, ev_nilA, ev_consA, ev_seqT, ev_seqL, ev_setN, ev_ok, ev_ioV, ev_ioU, ev_ioW, ev_owV, ev_owU, ev_own, ev_put, ev_ixOwn, ev_lenOwn, ev_setIx, ev_comp, ev_compL0, ev_compL1, ev_okC, ev_wipe1, ev_wipe0, ev_rest1, ev_rest0, ev_call, ev_callN, ev_ofr, ev_ofn, ev_ofnN, ev_io, ev_addI, ev_subI, ev_negI, ev_cmpI, ev_eqI, ev_neI, ev_eqS, ev_neS, ev_intI, ev_intB, ev_absI, ev_lenL, ev_lenT, ev_ixL, ev_ixT, ev_at0, ev_at1, ev_at2, ev_i30, ev_i31, ev_i32, ev_pk1, ev_pk2, ev_pk3, ev_pk4, ev_pkw1, ev_pkw2, ev_pkv2, ev_isI, ev_isN, ev_isB, ev_inI, ev_inN, ev_inB, ev_listT, ev_listL, ev_tupT, ev_tupL, R.bind_ok, R.out_ok, Option.bind_some, List.getElem?_cons_succ, List.getElem?_cons_zero, List.set_cons_succ, List.set_cons_zero, List.length_cons, List.length_nil, Nat.reduceAdd, Nat.reduceEqDiff, List.getD_cons_succ, List.getD_cons_zero, decide_true, decide_false, Bool.and_true, Bool.and_self, and_self, true_and, List.all_cons, List.all_nil, Bool.not_true, Bool.not_false, if_true, Bool.true_eq_false, Bool.false_eq_true, if_false, e, sz3]
  rfl
/-! ### the turns -/
theorem inner {sc a : D} {P : List D} {s o n : Int} {r : Rl} {x2 x8 x10 x11 x12 x13 x14 : Sl} (h1 : 1 ≤ s) (h2 : s ≤ 999) (h3 : 0 ≤ o) (h4 : o < s) (hn : Big n) (ha : a = .non ∨ ∃ t, a = .int t ∧ t ≤ o + s * mkIn s o n r)
    (p10 : Pl x10) (p11 : Pl x11) (p12 : Pl x12) :
    ∃ y12, Pl y12 ∧ g_law_b1 [.va sc, .ow P, x2, .va (gridD s o r), .va a, .va (.int s), .va (.int o), .va (.str r.s), x8, .va (.int n), x10, x11, x12, x13, x14] =
      .nx [.va sc, .ow P, x2, .va (gridD s o r), .va (.int (o + s * mkIn s o n r)), .va (.int s), .va (.int o), .va (.str r.s), x8, .va (.int n), .va (.int (mkIn s o n r)), .va (.int (o + s * mkIn s o n r)), y12, x13, x14] := by
  obtain ⟨b1, b2⟩ := mk_big (r := r) h1 h2 h3 h4 hn
  have em := mark (o := o) (n := n) (r := r) h1 h2
  have ms : mulD (.int s) (.int (mkIn s o n r)) = some (.int (s * mkIn s o n r)) := ev_mulS (.inl ⟨by omega, by omega⟩)
  have c1 := markT (r := r) h1 h2 h3 h4 n
  have c2 := nearL (r := r) h1 h2 h3 h4 n
  have c3 := pointT (r := r) h1 h2 h3 h4 (mkIn s o n r)
  have c4 := nearT (r := r) h1 h2 h3 h4 n
  have c5 := nearT (r := r) h1 h2 h3 h4 (o + s * mkIn s o n r)
  have c6 := markT (r := r) h1 h2 h3 h4 (o + s * mkIn s o n r)
  have c7 := isPt (r := r) h1 h2 h3 h4 (o + s * mkIn s o n r)
  have c8 := isPt (r := r) h1 h2 h3 h4 n
  rw [mk_on h1] at c5 c6
  rw [mk_pt (r := r) h1] at c7 c8
  rw [mk_on h1, decide_eq_true rfl] at c7
  unfold gridL at c2
  have lt : listN [gridD s o r] = some [.int s, .int o, .str r.s] := rfl
  generalize mkIn s o n r = p at *
  have ok1 : shOk (.lst [.int p, .int (o + s * p), .int (o + s * p), .int p, .int (o + s * p), .int (o + s * p)]) = true := by
    simp only [shOk, shOkL, decide_eq_true b1, decide_eq_true b2, Bool.and_self]
  obtain ⟨z1, e1⟩ := repr_of ok1 (by simp only [shDp, shDpL]; decide) (by simp only [shSz, shSzL]; decide)
  have ok2 : shOk (.lst [.bl true, .bl (decide (n = o + s * p))]) = true := by
    simp only [shOk, shOkL, Bool.and_self]
  obtain ⟨z2, e2⟩ := repr_of ok2 (by simp only [shDp, shDpL]; decide) (by simp only [shSz, shSzL]; decide)
  have s2 : (2 ≤ sizeLine) = True := by rw [sizeLine_eq]; decide
  have s6 : (6 ≤ sizeLine) = True := by rw [sizeLine_eq]; decide
  have e0 : ∀ z : Str, decide (z = z) = true := fun z => decide_eq_true rfl
  have e00 : ∀ z : Int, decide (z = z) = true := fun z => decide_eq_true rfl
  refine ⟨.va (.lst [.int p, .int (o + s * p), .int (o + s * p), .int p, .int (o + s * p), .int (o + s * p)]), Pl.va, ?_⟩
  rcases ha with rfl | ⟨w, rfl, hw⟩
  · simp only [g_law_b1, ev_name, ev_c, ev_op2, ev_op1, ev_toR1, ev_toRL1, ev_nil, ev_cons, ev_opn, ev_opnN, ev_tup, ev_lst, ev_lstN, ev_new, ev_tst, ev_notT, ev_andT, ev_orT, ev_notF, ev_andF, ev_orF, ev_ifF, ev_yes, ev_iter, ev_rng1, ev_rng2, ev_rngW, ev_noP, ev_sl, ev_part, ev_next, ev_noG, ev_seq, ev_drop, ev_ret, ev_retN, ev_if, ev_asg, ev_setA, ev_nilA, ev_consA, ev_seqT, ev_seqL, ev_setN, ev_ok, ev_ioV, ev_ioU, ev_ioW, ev_owV, ev_owU, ev_own, ev_put, ev_ixOwn, ev_lenOwn, ev_setIx, ev_comp, ev_compL0, ev_compL1, ev_okC, ev_wipe1, ev_wipe0, ev_rest1, ev_rest0, ev_call, ev_callN, ev_ofr, ev_ofn, ev_ofnN, ev_io, ev_addI, ev_subI, ev_negI, ev_cmpI, ev_eqI, ev_neI, ev_eqS, ev_neS, ev_intI, ev_intB, ev_absI, ev_lenL, ev_lenT, ev_ixL, ev_ixT, ev_at0, ev_at1, ev_at2, ev_i30, ev_i31, ev_i32, ev_pk1, ev_pk2, ev_pk3, ev_pk4, ev_pkw1, ev_pkw2, ev_pkv2, ev_isI, ev_isN, ev_isB, ev_inI, ev_inN, ev_inB, ev_listT, ev_listL, ev_tupT, ev_tupL, R.bind_ok, R.out_ok, Option.bind_some, List.getElem?_cons_succ, List.getElem?_cons_zero, List.set_cons_succ, List.set_cons_zero, List.length_cons, List.length_nil, Nat.reduceAdd, Nat.reduceEqDiff, List.getD_cons_succ, List.getD_cons_zero, decide_true, decide_false, Bool.and_true, Bool.and_self, and_self, true_and, List.all_cons, List.all_nil, Bool.not_true, Bool.not_false, if_true, Bool.true_eq_false, Bool.false_eq_true, if_false, em, ms, c1, c2, c3, c4, c5, c6, c7, c8, lt, e1, e2, s2, s6, e0, e00, p10.1, p11.1, p12.1]
  · have hl : decide (o + s * p < w) = false := decide_eq_false (by omega)
    simp only [g_law_b1, ev_name, ev_c, ev_op2, ev_op1, ev_toR1, ev_toRL1, ev_nil, ev_cons, ev_opn, ev_opnN, ev_tup, ev_lst, ev_lstN, ev_new, ev_tst, ev_notT, ev_andT, ev_orT, ev_notF, ev_andF, ev_orF, ev_ifF, ev_yes, ev_iter, ev_rng1, ev_rng2, ev_rngW, ev_noP, ev_sl, ev_part, ev_next, ev_noG, ev_seq, ev_drop, ev_ret, ev_retN, ev_if, ev_asg, ev_setA, ev_nilA, ev_consA, ev_seqT, ev_seqL, ev_setN, ev_ok, ev_ioV, ev_ioU, ev_ioW, ev_owV, ev_owU, ev_own, ev_put, ev_ixOwn, ev_lenOwn, ev_setIx, ev_comp, ev_compL0, ev_compL1, ev_okC, ev_wipe1, ev_wipe0, ev_rest1, ev_rest0, ev_call, ev_callN, ev_ofr, ev_ofn, ev_ofnN, ev_io, ev_addI, ev_subI, ev_negI, ev_cmpI, ev_eqI, ev_neI, ev_eqS, ev_neS, ev_intI, ev_intB, ev_absI, ev_lenL, ev_lenT, ev_ixL, ev_ixT, ev_at0, ev_at1, ev_at2, ev_i30, ev_i31, ev_i32, ev_pk1, ev_pk2, ev_pk3, ev_pk4, ev_pkw1, ev_pkw2, ev_pkv2, ev_isI, ev_isN, ev_isB, ev_inI, ev_inN, ev_inB, ev_listT, ev_listL, ev_tupT, ev_tupL, R.bind_ok, R.out_ok, Option.bind_some, List.getElem?_cons_succ, List.getElem?_cons_zero, List.set_cons_succ, List.set_cons_zero, List.length_cons, List.length_nil, Nat.reduceAdd, Nat.reduceEqDiff, List.getD_cons_succ, List.getD_cons_zero, decide_true, decide_false, Bool.and_true, Bool.and_self, and_self, true_and, List.all_cons, List.all_nil, Bool.not_true, Bool.not_false, if_true, Bool.true_eq_false, Bool.false_eq_true, if_false, em, ms, c1, c2, c3, c4, c5, c6, c7, c8, lt, e1, e2, s2, s6, e0, e00, hl, p10.1, p11.1, p12.1]
end Fx

set_option Elab.async false
set_option linter.all false
set_option maxRecDepth 100000
set_option exponentiation.threshold 3000
namespace Fx
open PySem L2 PyProof.Rows
theorem ints_of : ∀ {ys : List D}, (∀ y ∈ ys, ∃ n, y = .int n ∧ Big n) → ∃ ns : List Int, ys = ns.map D.int ∧ ∀ n ∈ ns, Big n
  | [], _ => ⟨[], rfl, fun n h => by cases h⟩
  | y :: ys, h => by
    obtain ⟨n, rfl, hn⟩ := h y List.mem_cons_self
    obtain ⟨ns, rfl, hs⟩ := ints_of (ys := ys) fun z hz => h z (List.mem_cons_of_mem _ hz)
    exact ⟨n :: ns, rfl, fun m hm => by
      rcases List.mem_cons.mp hm with rfl | hm
      · exact hn
      · exact hs m hm⟩
/-- the numbers of a turn -/
theorem laps {b : Nat} {P : List D} {sc : D} {s o : Int} {r : Rl} {x2 x4 x5 x6 x7 x8 x9 x10 x11 x12 x13 x14 : Sl} (h : Pen b P) (hb : b < 2 ^ 18) (h1 : 1 ≤ s) (h2 : s ≤ 999) (h3 : 0 ≤ o) (h4 : o < s) :
    ∃ (ns : List Int) (P' : List D) (y14 : Sl), compL [14] (setA 14) yesT (callIoF F__law_near 2 1 (consF (nameF 3) nilF)) (rngD 0 6) [.va sc, .ow P, x2, .va (gridD s o r), x4, x5, x6, x7, x8, x9, x10, x11, x12, x13, x14] =
      .ok (ns.map D.int) [.va sc, .ow P', x2, .va (gridD s o r), x4, x5, x6, x7, x8, x9, x10, x11, x12, x13, y14] ∧ (∀ n ∈ ns, Big n) ∧ Pen (b + 36) P' := by
  obtain ⟨ys, s', e, hl, hY, P', y14, rfl, hP⟩ := compL_run (vs := [14]) (a := setA 14) (u := yesT) (f := callIoF F__law_near 2 1 (consF (nameF 3) nilF))
    (I := fun j s' => ∃ P' y14, s' = [.va sc, .ow P', x2, .va (gridD s o r), x4, x5, x6, x7, x8, x9, x10, x11, x12, x13, y14] ∧ Pen (b + 6 * j) P') (Y := fun _ y => ∃ n, y = .int n ∧ Big n) (rngD 0 6) 0 _ ⟨P, x14, rfl, h⟩ fun j d s' e i => by
      obtain ⟨P', y14, rfl, hP⟩ := i
      have hj : j < 6 := by
        have := (List.getElem?_eq_some_iff.mp e).1
        rw [rngD_length] at this
        omega
      obtain ⟨n, P2, e2, hn, h2'⟩ := near (r := r) hP (by omega) h1 h2 h3 h4
      refine ⟨[.va sc, .ow P', x2, .va (gridD s o r), x4, x5, x6, x7, x8, x9, x10, x11, x12, x13, .va d], [.va sc, .ow P', x2, .va (gridD s o r), x4, x5, x6, x7, x8, x9, x10, x11, x12, x13, .va d], _, _, ?e1, ?e2, ?e3, ⟨n, rfl, hn⟩, P2, .va d, rfl, ?e4⟩
      case e4 => exact h2'.mono (by omega)
      case e1 => simp only [ev_name, ev_c, ev_op2, ev_op1, ev_toR1, ev_toRL1, ev_nil, ev_cons, ev_opn, ev_opnN, ev_tup, ev_lst, ev_lstN, ev_new, ev_tst, ev_notT, ev_andT, ev_orT, ev_notF, ev_andF, ev_orF, ev_ifF, ev_yes, ev_iter, ev_rng1, ev_rng2, ev_rngW, ev_noP, ev_sl, ev_part, ev_next, ev_noG, ev_seq, ev_drop, ev_ret, ev_retN, ev_if, ev_asg, ev_setA, ev_nilA, ev_consA, ev_seqT, ev_seqL, ev_setN, ev_ok, ev_ioV, ev_ioU, ev_ioW, ev_owV, ev_owU, ev_own, ev_put, ev_ixOwn, ev_lenOwn, ev_setIx, ev_comp, ev_compL0, ev_compL1, ev_okC, ev_wipe1, ev_wipe0, ev_rest1, ev_rest0, ev_call, ev_callN, ev_ofr, ev_ofn, ev_ofnN, ev_io, ev_addI, ev_subI, ev_negI, ev_cmpI, ev_eqI, ev_neI, ev_eqS, ev_neS, ev_intI, ev_intB, ev_absI, ev_lenL, ev_lenT, ev_ixL, ev_ixT, ev_at0, ev_at1, ev_at2, ev_i30, ev_i31, ev_i32, ev_pk1, ev_pk2, ev_pk3, ev_pk4, ev_pkw1, ev_pkw2, ev_pkv2, ev_isI, ev_isN, ev_isB, ev_inI, ev_inN, ev_inB, ev_listT, ev_listL, ev_tupT, ev_tupL, R.bind_ok, R.out_ok, Option.bind_some, List.getElem?_cons_succ, List.getElem?_cons_zero, List.set_cons_succ, List.set_cons_zero, List.length_cons, List.length_nil, Nat.reduceAdd, Nat.reduceEqDiff, List.getD_cons_succ, List.getD_cons_zero, decide_true, decide_false, Bool.and_true, Bool.and_self, and_self, true_and, List.all_cons, List.all_nil, Bool.not_true, Bool.not_false, if_true, Bool.true_eq_false, Bool.false_eq_true, if_false]
      case e2 => exact ev_yes
      case e3 => simp only [ev_name, ev_c, ev_op2, ev_op1, ev_toR1, ev_toRL1, ev_nil, ev_cons, ev_opn, ev_opnN, ev_tup, ev_lst, ev_lstN, ev_new, ev_tst, ev_notT, ev_andT, ev_orT, ev_notF, ev_andF, ev_orF, ev_ifF, ev_yes, ev_iter, ev_rng1, ev_rng2, ev_rngW, ev_noP, ev_sl, ev_part, ev_next, ev_noG, ev_seq, ev_drop, ev_ret, ev_retN, ev_if, ev_asg, ev_setA, ev_nilA, ev_consA, ev_seqT, ev_seqL, ev_setN, ev_ok, ev_ioV, ev_ioU, ev_ioW, ev_owV, ev_owU, ev_own, ev_put, ev_ixOwn, ev_lenOwn, ev_setIx, ev_comp, ev_compL0, ev_compL1, ev_okC, ev_wipe1, ev_wipe0, ev_rest1, ev_rest0, ev_call, ev_callN, ev_ofr, ev_ofn, ev_ofnN, ev_io, ev_addI, ev_subI, ev_negI, ev_cmpI, ev_eqI, ev_neI, ev_eqS, ev_neS, ev_intI, ev_intB, ev_absI, ev_lenL, ev_lenT, ev_ixL, ev_ixT, ev_at0, ev_at1, ev_at2, ev_i30, ev_i31, ev_i32, ev_pk1, ev_pk2, ev_pk3, ev_pk4, ev_pkw1, ev_pkw2, ev_pkv2, ev_isI, ev_isN, ev_isB, ev_inI, ev_inN, ev_inB, ev_listT, ev_listL, ev_tupT, ev_tupL, R.bind_ok, R.out_ok, Option.bind_some, List.getElem?_cons_succ, List.getElem?_cons_zero, List.set_cons_succ, List.set_cons_zero, List.length_cons, List.length_nil, Nat.reduceAdd, Nat.reduceEqDiff, List.getD_cons_succ, List.getD_cons_zero, decide_true, decide_false, Bool.and_true, Bool.and_self, and_self, true_and, List.all_cons, List.all_nil, Bool.not_true, Bool.not_false, if_true, Bool.true_eq_false, Bool.false_eq_true, if_false, e2]
  obtain ⟨ns, rfl, hs⟩ := ints_of fun y hy => by
    obtain ⟨j, hj, e⟩ := List.getElem_of_mem hy
    exact hY j y (List.getElem?_eq_some_iff.mpr ⟨hj, e⟩)
  refine ⟨ns, P', y14, e, hs, hP.mono ?_⟩
  rw [rngD_length]
  show b + 6 * (0 + 6) ≤ b + 36
  omega
/-- one turn -/
theorem turn {b : Nat} {P : List D} {sc : D} {x2 x3 x4 x5 x6 x7 x8 x9 x10 x11 x12 x13 x14 : Sl} (h : Pen b P) (hb : b < 2 ^ 17) (p3 : Pl x3) (p4 : Pl x4) (p5 : Pl x5) (p6 : Pl x6) (p7 : Pl x7) (p8 : Pl x8) (p9 : Pl x9) (p10 : Pl x10) (p11 : Pl x11) (p12 : Pl x12) (p14 : Pl x14) :
    ∃ (P' : List D) (y3 y4 y5 y6 y7 y8 y9 y10 y11 y12 : Sl), g_law_b2 [.va sc, .ow P, x2, x3, x4, x5, x6, x7, x8, x9, x10, x11, x12, x13, x14] = .nx [.va sc, .ow P', x2, y3, y4, y5, y6, y7, y8, y9, y10, y11, y12, x13, x14] ∧ Pen (b + 41) P' ∧
      Pl y3 ∧ Pl y4 ∧ Pl y5 ∧ Pl y6 ∧ Pl y7 ∧ Pl y8 ∧ Pl y9 ∧ Pl y10 ∧ Pl y11 ∧ Pl y12 := by
  obtain ⟨s, o, r, P1, e1, h1, h2, h3, h4, hP1⟩ := grid h (by omega)
  obtain ⟨ns, P2, y14, e2, hns, hP2⟩ := laps (sc := sc) (r := r) (x2 := x2) (x4 := .va .non) (x5 := .va (.int s)) (x6 := .va (.int o)) (x7 := .va (.str r.s)) (x8 := x8) (x9 := x9) (x10 := x10) (x11 := x11) (x12 := x12) (x13 := x13) (x14 := x14) hP1 (by omega) h1 h2 h3 h4
  have c1 := isGridT (r := r) h1 h2 h3 h4
  have c2 := isGridL (r := r) h1 h2 h3 h4
  unfold gridL at c2
  have lt : listN [gridD s o r] = some [.int s, .int o, .str r.s] := rfl
  have sq : ∀ (b : ASs) (t : List Sl), seqA 3 b (gridD s o r) t = b [.int s, .int o, .str r.s] t := fun _ _ => rfl
  have srt : sortedN [.lst (ns.map D.int)] = some ((sortI ns).map D.int) := by
    unfold sortedN
    dsimp only
    rw [intsD.map]
    rfl
  have s2 : (2 ≤ sizeLine) = True := by rw [sizeLine_eq]; decide
  have s6 : ((rngD 0 6).length < sizeLine) = True := by
    rw [rngD_length, sizeLine_eq]
    decide
  have n6 : sm62 6 = true := rfl
  have hS := sortI_sorted ns
  have hM : ∀ n ∈ sortI ns, Big n := fun n hn => hns n ((sortI_perm ns).mem_iff.mp hn)
  generalize sortI ns = ms at *
  obtain ⟨s', e3, a, x9', x10', x11', x12', rfl, q9, q10, q11, q12, _⟩ := forL_run (a := setA 9) (G1 := g_law_b1)
    (I := fun j s' => ∃ a x9 x10 x11 x12, s' = [.va sc, .ow P2, x2, .va (gridD s o r), .va a, .va (.int s), .va (.int o), .va (.str r.s), .va (.lst (ms.map D.int)), x9, x10, x11, x12, x13, x14] ∧ Pl x9 ∧ Pl x10 ∧ Pl x11 ∧ Pl x12 ∧
      ((j = 0 ∧ a = .non) ∨ ∃ k n, j = k + 1 ∧ ms[k]? = some n ∧ a = .int (o + s * mkIn s o n r))) (ms.map D.int) 0 _ ⟨.non, x9, x10, x11, x12, rfl, p9, p10, p11, p12, .inl ⟨rfl, rfl⟩⟩ fun j d s' e i => by
      obtain ⟨a, x9, x10, x11, x12, rfl, p9, p10, p11, p12, ha⟩ := i
      rw [Nat.zero_add] at ha
      obtain ⟨n, hn, rfl⟩ : ∃ n, ms[j]? = some n ∧ D.int n = d := by
        rw [List.getElem?_map] at e
        cases h : ms[j]? with
        | none => rw [h] at e; cases e
        | some n => rw [h] at e; cases e; exact ⟨n, rfl, rfl⟩
      have hb := hM n (List.mem_of_getElem? hn)
      obtain ⟨y12, q12, e5⟩ := inner (sc := sc) (a := a) (P := P2) (r := r) (x2 := x2) (x8 := .va (.lst (ms.map D.int))) (x13 := x13) (x14 := x14) h1 h2 h3 h4 hb (by
        rcases ha with ⟨_, rfl⟩ | ⟨k, m, rfl, hm, rfl⟩
        · exact .inl rfl
        · refine .inr ⟨_, rfl, ?_⟩
          obtain ⟨i1, g1⟩ := List.getElem?_eq_some_iff.mp hm
          obtain ⟨i2, g2⟩ := List.getElem?_eq_some_iff.mp hn
          have hle : m ≤ n := by
            have := List.pairwise_iff_getElem.mp hS k (k + 1) i1 i2 (Nat.lt_succ_self k)
            rwa [g1, g2] at this
          have := Int.mul_le_mul_of_nonneg_left (mk_mono (r := r) (o := o) h1 hle) (show (0 : Int) ≤ s by omega)
          omega) p10 p11 p12
      refine ⟨_, _, ?_, .inl e5, _, _, _, _, y12, rfl, Pl.va, Pl.va, Pl.va, q12, .inr ⟨j, n, by omega, hn, rfl⟩⟩
      simp only [ev_name, ev_c, ev_op2, ev_op1, ev_toR1, ev_toRL1, ev_nil, ev_cons, ev_opn, ev_opnN, ev_tup, ev_lst, ev_lstN, ev_new, ev_tst, ev_notT, ev_andT, ev_orT, ev_notF, ev_andF, ev_orF, ev_ifF, ev_yes, ev_iter, ev_rng1, ev_rng2, ev_rngW, ev_noP, ev_sl, ev_part, ev_next, ev_noG, ev_seq, ev_drop, ev_ret, ev_retN, ev_if, ev_asg, ev_setA, ev_nilA, ev_consA, ev_seqT, ev_seqL, ev_setN, ev_ok, ev_ioV, ev_ioU, ev_ioW, ev_owV, ev_owU, ev_own, ev_put, ev_ixOwn, ev_lenOwn, ev_setIx, ev_comp, ev_compL0, ev_compL1, ev_okC, ev_wipe1, ev_wipe0, ev_rest1, ev_rest0, ev_call, ev_callN, ev_ofr, ev_ofn, ev_ofnN, ev_io, ev_addI, ev_subI, ev_negI, ev_cmpI, ev_eqI, ev_neI, ev_eqS, ev_neS, ev_intI, ev_intB, ev_absI, ev_lenL, ev_lenT, ev_ixL, ev_ixT, ev_at0, ev_at1, ev_at2, ev_i30, ev_i31, ev_i32, ev_pk1, ev_pk2, ev_pk3, ev_pk4, ev_pkw1, ev_pkw2, ev_pkv2, ev_isI, ev_isN, ev_isB, ev_inI, ev_inN, ev_inB, ev_listT, ev_listL, ev_tupT, ev_tupL, R.bind_ok, R.out_ok, Option.bind_some, List.getElem?_cons_succ, List.getElem?_cons_zero, List.set_cons_succ, List.set_cons_zero, List.length_cons, List.length_nil, Nat.reduceAdd, Nat.reduceEqDiff, List.getD_cons_succ, List.getD_cons_zero, decide_true, decide_false, Bool.and_true, Bool.and_self, and_self, true_and, List.all_cons, List.all_nil, Bool.not_true, Bool.not_false, if_true, Bool.true_eq_false, Bool.false_eq_true, if_false, p9.1]
  refine ⟨P2, .va (gridD s o r), .va a, .va (.int s), .va (.int o), .va (.str r.s), .va (.lst (ms.map D.int)), x9', x10', x11', x12', ?_, hP2.mono (by omega), Pl.va, Pl.va, Pl.va, Pl.va, Pl.va, Pl.va, q9, q10, q11, q12⟩
  simp only [g_law_b2, ev_name, ev_c, ev_op2, ev_op1, ev_toR1, ev_toRL1, ev_nil, ev_cons, ev_opn, ev_opnN, ev_tup, ev_lst, ev_lstN, ev_new, ev_tst, ev_notT, ev_andT, ev_orT, ev_notF, ev_andF, ev_orF, ev_ifF, ev_yes, ev_iter, ev_rng1, ev_rng2, ev_rngW, ev_noP, ev_sl, ev_part, ev_next, ev_noG, ev_seq, ev_drop, ev_ret, ev_retN, ev_if, ev_asg, ev_setA, ev_nilA, ev_consA, ev_seqT, ev_seqL, ev_setN, ev_ok, ev_ioV, ev_ioU, ev_ioW, ev_owV, ev_owU, ev_own, ev_put, ev_ixOwn, ev_lenOwn, ev_setIx, ev_comp, ev_compL0, ev_compL1, ev_okC, ev_wipe1, ev_wipe0, ev_rest1, ev_rest0, ev_call, ev_callN, ev_ofr, ev_ofn, ev_ofnN, ev_io, ev_addI, ev_subI, ev_negI, ev_cmpI, ev_eqI, ev_neI, ev_eqS, ev_neS, ev_intI, ev_intB, ev_absI, ev_lenL, ev_lenT, ev_ixL, ev_ixT, ev_at0, ev_at1, ev_at2, ev_i30, ev_i31, ev_i32, ev_pk1, ev_pk2, ev_pk3, ev_pk4, ev_pkw1, ev_pkw2, ev_pkv2, ev_isI, ev_isN, ev_isB, ev_inI, ev_inN, ev_inB, ev_listT, ev_listL, ev_tupT, ev_tupL, R.bind_ok, R.out_ok, Option.bind_some, List.getElem?_cons_succ, List.getElem?_cons_zero, List.set_cons_succ, List.set_cons_zero, List.length_cons, List.length_nil, Nat.reduceAdd, Nat.reduceEqDiff, List.getD_cons_succ, List.getD_cons_zero, decide_true, decide_false, Bool.and_true, Bool.and_self, and_self, true_and, List.all_cons, List.all_nil, Bool.not_true, Bool.not_false, if_true, Bool.true_eq_false, Bool.false_eq_true, if_false, ev_for, e1, c1, c2, lt, sq, s2, s6, n6, p3.1, p4.1, p5.1, p6.1, p7.1, p8.1, p14.2, e2, srt, e3]
end Fx

set_option Elab.async false
set_option linter.all false
set_option maxRecDepth 100000
set_option exponentiation.threshold 3000
namespace Fx
open PySem L2 PyProof.Rows
theorem tie3 (r : Rl) : F_nearest [.tup [.int 4, .int 1, .str r.s], .int 3] = .ret (.int (1 + 4 * mkIn 4 1 3 r)) [] := nearT (r := r) (by decide) (by decide) (by decide) (by decide) 3
theorem tieM (r : Rl) : F_nearest [.tup [.int 4, .int 1, .str r.s], .int (-1)] = .ret (.int (1 + 4 * mkIn 4 1 (-1) r)) [] := nearT (r := r) (by decide) (by decide) (by decide) (by decide) (-1)
theorem tie_eq : eqD (.lst [.int 1, .int 5, .int 5, .int 1, .int 1, .int 5, .int (-3), .int 1, .int 1, .int (-3), .int 1, .int (-3)]) (.lst [.int 1, .int 5, .int 5, .int 1, .int 1, .int 5, .int (-3), .int 1, .int 1, .int (-3), .int 1, .int (-3)]) = some (.bl true) := by
  have h := eq_ints [1, 5, 5, 1, 1, 5, -3, 1, 1, -3, 1, -3] [1, 5, 5, 1, 1, 5, -3, 1, 1, -3, 1, -3]
  rw [decide_eq_true rfl] at h
  exact h
theorem law_true (ns : List Int) (h : ns.length ≤ 63) : F_law [.fz (ns.map .int)] = .ret (.bl true) [] := by
  obtain ⟨s', e, P', y2, y3, y4, y5, y6, y7, y8, y9, y10, y11, y12, rfl, hP, q2, q3, q4, q5, q6, q7, q8, q9, q10, q11, q12⟩ := forL_run (a := setA 2) (G1 := g_law_b2)
    (I := fun m s' => ∃ P' y2 y3 y4 y5 y6 y7 y8 y9 y10 y11 y12, s' = [.va (.fz (ns.map .int)), .ow P', y2, y3, y4, y5, y6, y7, y8, y9, y10, y11, y12, .un, .un] ∧ Pen (41 * m) P' ∧ Pl y2 ∧ Pl y3 ∧ Pl y4 ∧ Pl y5 ∧ Pl y6 ∧ Pl y7 ∧ Pl y8 ∧ Pl y9 ∧ Pl y10 ∧ Pl y11 ∧ Pl y12)
    (rngD 0 9) 0 _ ⟨[.lst (ns.map D.int), .int 0, .int 0], .un, .un, .un, .un, .un, .un, .un, .un, .un, .un, .un, rfl, ⟨ns, 0, 0, rfl, h, by decide, by decide⟩, Pl.un, Pl.un, Pl.un, Pl.un, Pl.un, Pl.un, Pl.un, Pl.un, Pl.un, Pl.un, Pl.un⟩ fun j d s' e i => by
      obtain ⟨P', y2, y3, y4, y5, y6, y7, y8, y9, y10, y11, y12, rfl, hP, q2, q3, q4, q5, q6, q7, q8, q9, q10, q11, q12⟩ := i
      have hj : j < 9 := by
        have := (List.getElem?_eq_some_iff.mp e).1
        rw [rngD_length] at this
        omega
      obtain ⟨P2, z3, z4, z5, z6, z7, z8, z9, z10, z11, z12, e2, hP2, r3, r4, r5, r6, r7, r8, r9, r10, r11, r12⟩ := turn (sc := .fz (ns.map .int)) (x2 := .va d) (x13 := .un) hP (by omega) q3 q4 q5 q6 q7 q8 q9 q10 q11 q12 Pl.un
      refine ⟨_, _, ?_, .inl e2, P2, .va d, z3, z4, z5, z6, z7, z8, z9, z10, z11, z12, rfl, hP2.mono (by omega), Pl.va, r3, r4, r5, r6, r7, r8, r9, r10, r11, r12⟩
      simp only [ev_name, ev_c, ev_op2, ev_op1, ev_toR1, ev_toRL1, ev_nil, ev_cons, ev_opn, ev_opnN, ev_tup, ev_lst, ev_lstN, ev_new, ev_tst, ev_notT, ev_andT, ev_orT, ev_notF, ev_andF, ev_orF, ev_ifF, ev_yes, ev_iter, ev_rng1, ev_rng2, ev_rngW, ev_noP, ev_sl, ev_part, ev_next, ev_noG, ev_seq, ev_drop, ev_ret, ev_retN, ev_if, ev_asg, ev_setA, ev_nilA, ev_consA, ev_seqT, ev_seqL, ev_setN, ev_ok, ev_ioV, ev_ioU, ev_ioW, ev_owV, ev_owU, ev_own, ev_put, ev_ixOwn, ev_lenOwn, ev_setIx, ev_comp, ev_compL0, ev_compL1, ev_okC, ev_wipe1, ev_wipe0, ev_rest1, ev_rest0, ev_call, ev_callN, ev_ofr, ev_ofn, ev_ofnN, ev_io, ev_addI, ev_subI, ev_negI, ev_cmpI, ev_eqI, ev_neI, ev_eqS, ev_neS, ev_intI, ev_intB, ev_absI, ev_lenL, ev_lenT, ev_ixL, ev_ixT, ev_at0, ev_at1, ev_at2, ev_i30, ev_i31, ev_i32, ev_pk1, ev_pk2, ev_pk3, ev_pk4, ev_pkw1, ev_pkw2, ev_pkv2, ev_isI, ev_isN, ev_isB, ev_inI, ev_inN, ev_inB, ev_listT, ev_listL, ev_tupT, ev_tupL, R.bind_ok, R.out_ok, Option.bind_some, List.getElem?_cons_succ, List.getElem?_cons_zero, List.set_cons_succ, List.set_cons_zero, List.length_cons, List.length_nil, Nat.reduceAdd, Nat.reduceEqDiff, List.getD_cons_succ, List.getD_cons_zero, decide_true, decide_false, Bool.and_true, Bool.and_self, and_self, true_and, List.all_cons, List.all_nil, Bool.not_true, Bool.not_false, if_true, Bool.true_eq_false, Bool.false_eq_true, if_false, q2.1]
  have n9 : sm62 9 = true := rfl
  have s6 : (6 ≤ sizeLine) = True := by rw [sizeLine_eq]; decide
  have s7 : (6 < sizeLine) = True := by rw [sizeLine_eq]; decide
  have s12 : (12 ≤ sizeLine) = True := by rw [sizeLine_eq]; decide
  have t1 : F_nearest [.tup [.int 4, .int 1, .str "floor"], .int 3] = .ret (.int 1) [] := tie3 .floor
  have t2 : F_nearest [.tup [.int 4, .int 1, .str "ceil"], .int 3] = .ret (.int 5) [] := tie3 .ceil
  have t3 : F_nearest [.tup [.int 4, .int 1, .str "up"], .int 3] = .ret (.int 5) [] := tie3 .up
  have t4 : F_nearest [.tup [.int 4, .int 1, .str "down"], .int 3] = .ret (.int 1) [] := tie3 .down
  have t5 : F_nearest [.tup [.int 4, .int 1, .str "even"], .int 3] = .ret (.int 1) [] := tie3 .even
  have t6 : F_nearest [.tup [.int 4, .int 1, .str "odd"], .int 3] = .ret (.int 5) [] := tie3 .odd
  have u1 : F_nearest [.tup [.int 4, .int 1, .str "floor"], .int (-1)] = .ret (.int (-3)) [] := tieM .floor
  have u2 : F_nearest [.tup [.int 4, .int 1, .str "ceil"], .int (-1)] = .ret (.int 1) [] := tieM .ceil
  have u3 : F_nearest [.tup [.int 4, .int 1, .str "up"], .int (-1)] = .ret (.int 1) [] := tieM .up
  have u4 : F_nearest [.tup [.int 4, .int 1, .str "down"], .int (-1)] = .ret (.int (-3)) [] := tieM .down
  have u5 : F_nearest [.tup [.int 4, .int 1, .str "even"], .int (-1)] = .ret (.int 1) [] := tieM .even
  have u6 : F_nearest [.tup [.int 4, .int 1, .str "odd"], .int (-1)] = .ret (.int (-3)) [] := tieM .odd
  have ad : addD (.lst [.int 1, .int 5, .int 5, .int 1, .int 1, .int 5]) (.lst [.int (-3), .int 1, .int 1, .int (-3), .int 1, .int (-3)]) = some (.lst [.int 1, .int 5, .int 5, .int 1, .int 1, .int 5, .int (-3), .int 1, .int 1, .int (-3), .int 1, .int (-3)]) := rfl
  show outF false (g_law [.va (.fz (ns.map .int)), .un, .un, .un, .un, .un, .un, .un, .un, .un, .un, .un, .un, .un, .un]) = _
  simp only [g_law, ev_name, ev_c, ev_op2, ev_op1, ev_toR1, ev_toRL1, ev_nil, ev_cons, ev_opn, ev_opnN, ev_tup, ev_lst, ev_lstN, ev_new, ev_tst, ev_notT, ev_andT, ev_orT, ev_notF, ev_andF, ev_orF, ev_ifF, ev_yes, ev_iter, ev_rng1, ev_rng2, ev_rngW, ev_noP, ev_sl, ev_part, ev_next, ev_noG, ev_seq, ev_drop, ev_ret, ev_retN, ev_if, ev_asg, ev_setA, ev_nilA, ev_consA, ev_seqT, ev_seqL, ev_setN, ev_ok, ev_ioV, ev_ioU, ev_ioW, ev_owV, ev_owU, ev_own, ev_put, ev_ixOwn, ev_lenOwn, ev_setIx, ev_comp, ev_compL0, ev_compL1, ev_okC, ev_wipe1, ev_wipe0, ev_rest1, ev_rest0, ev_call, ev_callN, ev_ofr, ev_ofn, ev_ofnN, ev_io, ev_addI, ev_subI, ev_negI, ev_cmpI, ev_eqI, ev_neI, ev_eqS, ev_neS, ev_intI, ev_intB, ev_absI, ev_lenL, ev_lenT, ev_ixL, ev_ixT, ev_at0, ev_at1, ev_at2, ev_i30, ev_i31, ev_i32, ev_pk1, ev_pk2, ev_pk3, ev_pk4, ev_pkw1, ev_pkw2, ev_pkv2, ev_isI, ev_isN, ev_isB, ev_inI, ev_inN, ev_inB, ev_listT, ev_listL, ev_tupT, ev_tupL, R.bind_ok, R.out_ok, Option.bind_some, List.getElem?_cons_succ, List.getElem?_cons_zero, List.set_cons_succ, List.set_cons_zero, List.length_cons, List.length_nil, Nat.reduceAdd, Nat.reduceEqDiff, List.getD_cons_succ, List.getD_cons_zero, decide_true, decide_false, Bool.and_true, Bool.and_self, and_self, true_and, List.all_cons, List.all_nil, Bool.not_true, Bool.not_false, if_true, Bool.true_eq_false, Bool.false_eq_true, if_false, ev_for, pen0 h, rules_ne, s6, s7, s12, sz3, n9, e, q7.1, q7.2, t1, t2, t3, t4, t5, t6, u1, u2, u3, u4, u5, u6, ad, tie_eq]
  rfl
theorem law_end : ∀ (K : PySem.W.Frag) (H : Hp) (a : Addr) (ns : List Int), ns.length ≤ 63 → (Rd H a (.lst (ns.map V.int)) ∨ ∀ H, SqL K H a (ns.map V.int)) → spF K false 1 F_law [.ref a] H (fun v _ => v = .bl true) (fun _ _ _ => False) := fun K H a ns hl h => law_end_of law_true K H a ns hl h
end Fx

open PySem PySem.W PyProof.Rows
set_option maxRecDepth 100000 in
set_option maxHeartbeats 0 in
theorem PySem.Challenge.cw_saveagain_k06_whole_rounding_to_points_holds : PySem.Challenge.rw_saveagain_k06_whole_rounding_to_points.Holds := by
  w_on; o_law; k_head; (case hw => w_witness2)
  k_fill
  refine Fx.walkG (l := PySem.Challenge.rw_saveagain_k06_whole_rounding_to_points) (n := 63) (k := 6) (x := "script") (sp := fun K => Fx.spF K false 1 Fx.F_law) rfl (by decide) rfl ⟨rfl, by decide, by decide⟩ (fun w h Y => PySem.W.kIn_of Y) ?F Fx.law_end
  case F =>
    intro w mg fa h KX G hmg
    refine' Fx.all_mk KX G hmg ?a0 ?l0 ?c0 ?k0 ?a1 ?l1 ?c1 ?k1 ?a2 ?l2 ?c2 ?k2 ?a3 ?l3 ?c3 ?k3 ?a4 ?l4 ?c4 ?k4 ?a5 ?l5 ?c5 ?k5 ?a6 ?l6 ?c6 ?k6 ?a7 ?l7 ?c7 ?k7 ?a8 ?l8 ?c8 ?k8 ?a9 ?l9 ?c9 ?k9 ?a10 ?l10 ?c10 ?k10 ?a11 ?l11 ?c11 ?k11 ?a12 ?l12 ?c12 ?k12 ?a13 ?l13 ?c13 ?k13 ?a14 ?l14 ?c14 ?k14 ?a15 ?l15 ?c15 ?k15 ?a16 ?l16 ?c16 ?k16 ?a17 ?l17 ?c17 ?k17 ?a18 ?l18 ?c18 ?k18 ?a19 ?l19 ?c19 ?k19 ?z0 ?z1 ?z2 ?z3 ?z4 ?z5 ?z6 ?z7 ?z8 ?z9 ?z10 ?z11 ?z12 ?z13 ?v0 ?v1 ?w1
    (case a0 => k_is); (case l0 => k_is); (case c0 => k_is); (case k0 => k_is); (case a1 => k_is); (case l1 => k_is); (case c1 => k_is); (case k1 => k_is); (case a2 => k_is); (case l2 => k_is); (case c2 => k_is); (case k2 => k_is); (case a3 => k_is); (case l3 => k_is); (case c3 => k_is); (case k3 => k_is); (case a4 => k_is); (case l4 => k_is); (case c4 => k_is); (case k4 => k_is); (case a5 => k_is); (case l5 => k_is); (case c5 => k_is); (case k5 => k_is); (case a6 => k_is); (case l6 => k_is); (case c6 => k_is); (case k6 => k_is); (case a7 => k_is); (case l7 => k_is); (case c7 => k_is); (case k7 => k_is); (case a8 => k_is); (case l8 => k_is); (case c8 => k_is); (case k8 => k_is); (case a9 => k_is); (case l9 => k_is); (case c9 => k_is); (case k9 => k_is); (case a10 => k_is); (case l10 => k_is); (case c10 => k_is); (case k10 => k_is); (case a11 => k_is); (case l11 => k_is); (case c11 => k_is); (case k11 => k_is); (case a12 => k_is); (case l12 => k_is); (case c12 => k_is); (case k12 => k_is); (case a13 => k_is); (case l13 => k_is); (case c13 => k_is); (case k13 => k_is); (case a14 => k_is); (case l14 => k_is); (case c14 => k_is); (case k14 => k_is); (case a15 => k_is); (case l15 => k_is); (case c15 => k_is); (case k15 => k_is); (case a16 => k_is); (case l16 => k_is); (case c16 => k_is); (case k16 => k_is); (case a17 => k_is); (case l17 => k_is); (case c17 => k_is); (case k17 => k_is); (case a18 => k_is); (case l18 => k_is); (case c18 => k_is); (case k18 => k_is); (case a19 => k_is); (case l19 => k_is); (case c19 => k_is); (case k19 => k_is); (case z0 => k_is); (case z1 => k_is); (case z2 => k_is); (case z3 => k_is); (case z4 => k_is); (case z5 => k_is); (case z6 => k_is); (case z7 => k_is); (case z8 => k_is); (case z9 => k_is); (case z10 => k_is); (case z11 => k_is); (case z12 => k_is); (case z13 => k_is); (case v0 => k_is); (case v1 => k_is); (case w1 => k_is)
