import PyProof.Rows.All
import Wide.All
import OpenK.AllK
import Wide.FinOn
import HandS.ForSpec
import HandS.ForMost
import HandS.Lambda
import HandS.ExcIs
import HandS.ExcValue
import HandS.Defaults
import HandS.IsInst
import HandS.SortInts
import HandS.Wide
import HandS.TupAny
import HandS.TupLe
import HandS.TupMul
import HandS.Conv
import HandS.Style
import HandS.Zip
import HandS.RaiseMore
import HandS.TupSets
import KE.GoesMore
import KE.GoesZip
import KE.GoesEnum
import HandS.OwnEq
import HandS.Gcd
import PyProof.InstNe
import OpenK.KWalk
import OpenK.KDescr
import HandS.ExcInit
import KE.KExcSuper
import HandS.EndTab
import HandS.ExcField
import KE.KExcIs
import HandS.WideBits
import HandS.WideMore
import PySem.Challenge.RW_saveagain_k33_whole_best_parameters
set_option Elab.async false
set_option linter.all false
set_option maxRecDepth 100000
/-! Fx: pieces of Python described by plain functions on data. -/
namespace Fx
open PySem L2

/-- the tables of code objects that lambdas are noted in, each with the name of its lambdas -/
class Tbl where
  T : List (Addr × Str)
variable [Tbl]
/-- the tables stand -/
def TbOk (H : Hp) : Prop := LamX.Tabs Tbl.T H
/-- no table -/
def NoTb (o : HO) : Prop := ∀ ps, o ≠ .tbl ps
/-- what grows: all but the tables is as it was, and these stand -/
structure Gro (H H' : Hp) : Prop where
  e : ∀ b o, H b = some o → NoTb o → H' b = some o
  t : TbOk H → TbOk H'
theorem TbOk.same {H H' : Hp} (t : TbOk H) (s : Same H H') : TbOk H' := LamX.Tabs.ext t s
theorem Gro.same {H H' : Hp} (s : Same H H') : Gro H H' := ⟨fun b o e _ => s b o e, fun t => t.same s⟩
theorem Gro.refl {H : Hp} : Gro H H := ⟨fun _ _ e _ => e, id⟩
theorem Gro.trans {H H1 H2 : Hp} (a : Gro H H1) (b : Gro H1 H2) : Gro H H2 := ⟨fun c o e n => b.e c o (a.e c o e n) n, fun t => b.t (a.t t)⟩
theorem TbOk.chg {H H' : Hp} {a : Addr} (t : TbOk H) (ha : ∀ o, H a = some o → NoTb o ∧ ∀ φ, o ≠ .ext φ) (st : ∀ b o, b ≠ a → H b = some o → H' b = some o) : TbOk H' := fun p hp => by
  obtain ⟨ps, h1, h2, h3⟩ := t p hp
  refine ⟨ps, st _ _ (fun z => ?_) h1, h2, fun pos cv hc => ?_⟩
  · rw [z] at h1
    exact (ha _ h1).1 ps rfl
  · obtain ⟨c, e1, e2⟩ := h3 pos cv hc
    refine ⟨c, e1, st _ _ (fun z => ?_) e2⟩
    rw [z] at e2
    exact (ha _ e2).2 _ rfl
/-- an exception object of the class cls with this dict, at a -/
def ExV (cls : Value) (d : Option Addr) (a : Addr) : HO := .ext fun h => ∃ (oe : Obj) (vs : Array Value), h.get? a = some oe ∧ Zc cls d oe ∧ oe.data = .fields vs
/-- data -/
inductive D where
  | non | bl (b : Bool) | int (i : Int) | str (x : Str) | ref (a : Addr) | ty (n : String)
  | tup (xs : List D) | lst (xs : List D) | fz (xs : List D) | ins (n : Str) (fs : List (Str × D))
  | exc (n : Str) (fs : List (Str × D)) | dic (ks : List Key) (xs : List D)
/-- a tuple of the written part -/
def KTup (K : PySem.W.Frag) (a : Addr) (xs : List V) : Prop := ∃ (o : Obj) (its : Array Value) (n : Nat), K.lookup a = some o ∧ o.cls = .type "tuple" ∧ o.data = .seq its n ∧ its.size ≤ sizeLine ∧ Vals xs its.toList
theorem KTup.sq {K : PySem.W.Frag} {a : Addr} {xs : List V} (h : KTup K a xs) (H : Hp) : SqT K H a xs := .inr h

abbrev MS := Addr → Prop
/-- the class of this name -/
def ClsAt (K : PySem.W.Frag) (n : Str) (C : Addr) : Prop := PySem.W.nsIn K mainGlobals n = some (some (.ref C))

mutual
/-- a value and the data it stands for; M: the objects that may still be changed -/
inductive Rp (K : PySem.W.Frag) (M : MS) (H : Hp) : V → D → Prop
  | non : Rp K M H .non .non
  | bl (b : Bool) : Rp K M H (.bl b) (.bl b)
  | int (i : Int) : Rp K M H (.int i) (.int i)
  | str (x : Str) : Rp K M H (.str x) (.str x)
  | ty (n : String) : Rp K M H (.ty n) (.ty n)
  | ref (a : Addr) : Rp K M H (.ref a) (.ref a)
  | lst {a : Addr} {xs : List V} {ds : List D} : H a = some (.lst xs) → ¬ M a → RpL K M H xs ds → Rp K M H (.ref a) (.lst ds)
  | fz {a : Addr} {xs : List V} {ds : List D} : Rd H a (.lst xs) → ¬ M a → RpL K M H xs ds → Rp K M H (.ref a) (.fz ds)
  | fzK {a : Addr} {xs : List V} {ds : List D} : (∀ H, SqL K H a xs) → RpL K M H xs ds → Rp K M H (.ref a) (.fz ds)
  | tup {a : Addr} {xs : List V} {ds : List D} : H a = some (.tup xs) → RpL K M H xs ds → Rp K M H (.ref a) (.tup ds)
  | tupK {a : Addr} {xs : List V} {ds : List D} : KTup K a xs → RpL K M H xs ds → Rp K M H (.ref a) (.tup ds)
  | ins {a C dx : Addr} {n : Str} {fs : List (Str × V)} {gs : List (Str × D)} : H a = some (.ins C dx fs) → ¬ M a → ClsAt K n C → fs.map (·.1) = gs.map (·.1) → RpL K M H (fs.map (·.2)) (gs.map (·.2)) → Rp K M H (.ref a) (.ins n gs)
  | exc0 {a C : Addr} {n : Str} : H a = some (ExV (.ref C) none a) → ¬ M a → ClsAt K n C → Rp K M H (.ref a) (.exc n [])
  | exc {a C d : Addr} {n : Str} {fs : List (Str × V)} {gs : List (Str × D)} : H a = some (ExV (.ref C) (some d) a) → ¬ M a → ClsAt K n C → H d = some (.xd fs) → ¬ M d → fs.map (·.1) = gs.map (·.1) → RpL K M H (fs.map (·.2)) (gs.map (·.2)) → Rp K M H (.ref a) (.exc n gs)
  | dic {a : Addr} {ks : List Key} {vs : List V} {ds : List D} : H a = some (.dK (ks.zip vs)) → ¬ M a → ks.length = vs.length → RpL K M H vs ds → Rp K M H (.ref a) (.dic ks ds)
inductive RpL (K : PySem.W.Frag) (M : MS) (H : Hp) : List V → List D → Prop
  | nil : RpL K M H [] []
  | cons {v : V} {vs : List V} {d : D} {ds : List D} : Rp K M H v d → RpL K M H vs ds → RpL K M H (v :: vs) (d :: ds)
end

/-- what may be changed stands -/
def MOk (M : MS) (H : Hp) : Prop := ∀ b, M b → Mut (H b)
/-- all but M is as it was -/
def Step (M : MS) (H H' : Hp) : Prop := ∀ b o, H b = some o → ¬ M b → NoTb o → H' b = some o
theorem tb_of {o : HO} (h : ¬ NoTb o) : ∃ ps, o = .tbl ps := Classical.byContradiction fun z => h fun ps e => z ⟨ps, e⟩
theorem _root_.L2.Fr0.no {H : Hp} {a : Addr} {o : HO} (f : Fr0 H a) (h : H a = some o) (t : NoTb o) : False := by
  obtain ⟨ps, e⟩ := f o h
  exact t ps e
def Sub (M' M : MS) : Prop := ∀ b, M' b → M b
theorem Sub.rfl {M : MS} : Sub M M := fun _ h => h
theorem Sub.trans {M M' M'' : MS} (a : Sub M'' M') (b : Sub M' M) : Sub M'' M := fun x h => b x (a x h)
theorem Step.rfl {M : MS} {H : Hp} : Step M H H := fun _ _ h _ _ => h
theorem Step.trans {M M' : MS} {H H1 H2 : Hp} (a : Step M H H1) (b : Step M' H1 H2) (s : Sub M' M) : Step M H H2 := fun c o h n t => b c o (a c o h n t) (fun z => n (s c z)) t
theorem Step.gro {M : MS} {H H' : Hp} (h : Gro H H') : Step M H H' := fun b o e _ t => h.e b o e t
theorem Step.same {M : MS} {H H' : Hp} (h : Same H H') : Step M H H' := .gro (.same h)
theorem MOk.notTup {M : MS} {H : Hp} {a : Addr} {xs : List V} (m : MOk M H) (h : H a = some (.tup xs)) : ¬ M a := fun z => by
  have := m a z
  rw [h] at this
  exact this
theorem MOk.notFrz {M : MS} {H : Hp} {a : Addr} {o : Obj} {u : HO} (m : MOk M H) (h : H a = some (.frz o u)) : ¬ M a := fun z => by
  have := m a z
  rw [h] at this
  exact this
theorem MOk.noTb {M : MS} {H : Hp} {a : Addr} {o : HO} (m : MOk M H) (h : M a) (e : H a = some o) : NoTb o := fun ps z => by
  have q := m a h
  rw [e, z] at q
  exact q
theorem MOk.gro {M : MS} {H H' : Hp} (m : MOk M H) (s : Gro H H') : MOk M H' := fun b z => by
  have q := m b z
  cases e : H b with
  | none => rw [e] at q; exact False.elim q
  | some o => rw [s.e b o e (m.noTb z e), ← e]; exact q
theorem MOk.same {M : MS} {H H' : Hp} (m : MOk M H) (s : Same H H') : MOk M H' := m.gro (.same s)
theorem MOk.there {M : MS} {H : Hp} {a : Addr} (m : MOk M H) (h : H a = none) : ¬ M a := fun z => by
  have q := m a z
  rw [h] at q
  exact q
theorem MOk.thereF {M : MS} {H : Hp} {a : Addr} (m : MOk M H) (h : Fr0 H a) : ¬ M a := fun z => by
  have q := m a z
  cases e : H a with
  | none => rw [e] at q; exact q
  | some o => exact h.no e (m.noTb z e)
theorem Rd.step {M : MS} {H H' : Hp} {a : Addr} {u : HO} (hu : NoTb u) (s : Step M H H') (n : ¬ M a) (h : Rd H a u) : Rd H' a u := by
  rcases h with h | ⟨o, h⟩
  · exact .inl (s a _ h n hu)
  · exact .inr ⟨o, s a _ h n (fun _ z => by cases z)⟩
theorem Rd.notMT {M : MS} {H : Hp} {a : Addr} {xs : List V} (m : MOk M H) (h : Rd H a (.tup xs)) : ¬ M a := by
  rcases h with h | ⟨o, h⟩
  · exact m.notTup h
  · exact m.notFrz h

/-- what comes behind: what is held to be changeable was so or is new; all else is as it was -/
structure Ev (M : MS) (H : Hp) (M' : MS) (H' : Hp) : Prop where
  old : ∀ b, M' b → M b ∨ Fr0 H b
  st : Step M H H'
theorem Ev.rfl {M : MS} {H : Hp} : Ev M H M H := ⟨fun _ h => .inl h, .rfl⟩
theorem Ev.trans {M M1 M2 : MS} {H H1 H2 : Hp} (a : Ev M H M1 H1) (b : Ev M1 H1 M2 H2) : Ev M H M2 H2 := by
  refine ⟨fun c h => ?_, fun c o h n t => b.st c o (a.st c o h n t) (fun z => ?_) t⟩
  · rcases b.old c h with h | h
    · exact a.old c h
    · by_cases hm : M c
      · exact .inl hm
      · refine .inr fun o e => ?_
        by_cases t : NoTb o
        · exact h o (a.st c o e hm t)
        · exact tb_of t
  · rcases a.old c z with z | z
    · exact n z
    · exact z.no h t
theorem Ev.gro {M : MS} {H H' : Hp} (h : Gro H H') : Ev M H M H' := ⟨fun _ h => .inl h, .gro h⟩
theorem Ev.same {M : MS} {H H' : Hp} (h : Same H H') : Ev M H M H' := .gro (.same h)
theorem Ev.sub {M M' : MS} {H : Hp} (h : Sub M' M) : Ev M H M' H := ⟨fun b z => .inl (h b z), .rfl⟩
theorem Ev.not {M M' : MS} {H H' : Hp} {a : Addr} {o : HO} (t : NoTb o) (e : Ev M H M' H') (h : H a = some o) (n : ¬ M a) : ¬ M' a := fun z => by
  rcases e.old a z with z | z
  · exact n z
  · exact z.no h t
theorem Ev.notR {M M' : MS} {H H' : Hp} {a : Addr} {u : HO} (t : NoTb u) (e : Ev M H M' H') (h : Rd H a u) (n : ¬ M a) : ¬ M' a := by
  rcases h with h | ⟨o, h⟩
  · exact e.not t h n
  · exact e.not (fun _ z => by cases z) h n
theorem nt_lst {xs : List V} : NoTb (.lst xs) := fun _ z => by cases z
theorem nt_tup {xs : List V} : NoTb (.tup xs) := fun _ z => by cases z
theorem nt_ins {C d : Addr} {fs : List (Str × V)} : NoTb (.ins C d fs) := fun _ z => by cases z
theorem nt_xd {fs : List (Str × V)} : NoTb (.xd fs) := fun _ z => by cases z
theorem nt_dK {fs : List (Key × V)} : NoTb (.dK fs) := fun _ z => by cases z
theorem nt_ext {φ : Heap → Prop} : NoTb (.ext φ) := fun _ z => by cases z
theorem nt_exv {c : Value} {d : Option Addr} {a : Addr} : NoTb (ExV c d a) := nt_ext
mutual
theorem Rp.move {K : PySem.W.Frag} {M M' : MS} {H H' : Hp} (m : MOk M H) (v : Ev M H M' H') : ∀ {v : V} {d : D}, Rp K M H v d → Rp K M' H' v d
  | _, _, .non => .non
  | _, _, .bl b => .bl b
  | _, _, .int i => .int i
  | _, _, .str x => .str x
  | _, _, .ty n => .ty n
  | _, _, .ref a => .ref a
  | _, _, .lst h n l => .lst (v.st _ _ h n nt_lst) (v.not nt_lst h n) (RpL.move m v l)
  | _, _, .fz h n l => .fz (Rd.step nt_lst v.st n h) (v.notR nt_lst h n) (RpL.move m v l)
  | _, _, .fzK h l => .fzK h (RpL.move m v l)
  | _, _, .tup h l => .tup (v.st _ _ h (m.notTup h) nt_tup) (RpL.move m v l)
  | _, _, .tupK h l => .tupK h (RpL.move m v l)
  | _, _, .ins h n c e l => .ins (v.st _ _ h n nt_ins) (v.not nt_ins h n) c e (RpL.move m v l)
  | _, _, .exc0 h n c => .exc0 (v.st _ _ h n nt_exv) (v.not nt_exv h n) c
  | _, _, .exc h n c hd nd e l => .exc (v.st _ _ h n nt_exv) (v.not nt_exv h n) c (v.st _ _ hd nd nt_xd) (v.not nt_xd hd nd) e (RpL.move m v l)
  | _, _, .dic h n e l => .dic (v.st _ _ h n nt_dK) (v.not nt_dK h n) e (RpL.move m v l)
theorem RpL.move {K : PySem.W.Frag} {M M' : MS} {H H' : Hp} (m : MOk M H) (v : Ev M H M' H') : ∀ {vs : List V} {ds : List D}, RpL K M H vs ds → RpL K M' H' vs ds
  | _, _, .nil => .nil
  | _, _, .cons h t => .cons (Rp.move m v h) (RpL.move m v t)
end
/-- M and one more -/
def With (M : MS) (p : Addr) : MS := fun b => M b ∨ b = p
def Wout (M : MS) (p : Addr) : MS := fun b => M b ∧ b ≠ p
theorem Rd.laid {H : Hp} {p a : Addr} {o u : HO} (e : H p = none) (h : Rd H a u) : Rd (upd H p o) a u ∧ a ≠ p := by
  rcases h with h | ⟨q, h⟩
  · exact ⟨.inl (by rw [upd_ne (ne_of_none h e)]; exact h), ne_of_none h e⟩
  · exact ⟨.inr ⟨q, by rw [upd_ne (ne_of_none h e)]; exact h⟩, ne_of_none h e⟩
mutual
/-- a fresh address is reached by nothing -/
theorem Rp.grow1 {K : PySem.W.Frag} {M : MS} {H : Hp} {p : Addr} {o : HO} (e : H p = none) : ∀ {v : V} {d : D}, Rp K M H v d → Rp K (With M p) (upd H p o) v d
  | _, _, .non => .non
  | _, _, .bl b => .bl b
  | _, _, .int i => .int i
  | _, _, .str x => .str x
  | _, _, .ty n => .ty n
  | _, _, .ref a => .ref a
  | _, _, .lst h n l => .lst (by rw [upd_ne (ne_of_none h e)]; exact h) (fun z => z.elim n (ne_of_none h e)) (RpL.grow1 e l)
  | _, _, .fz h n l => .fz (Rd.laid e h).1 (fun z => z.elim n (Rd.laid (o := o) e h).2) (RpL.grow1 e l)
  | _, _, .fzK h l => .fzK h (RpL.grow1 e l)
  | _, _, .tup h l => .tup (by rw [upd_ne (ne_of_none h e)]; exact h) (RpL.grow1 e l)
  | _, _, .tupK h l => .tupK h (RpL.grow1 e l)
  | _, _, .ins h n c q l => .ins (by rw [upd_ne (ne_of_none h e)]; exact h) (fun z => z.elim n (ne_of_none h e)) c q (RpL.grow1 e l)
  | _, _, .exc0 h n c => .exc0 (by rw [upd_ne (ne_of_none h e)]; exact h) (fun z => z.elim n (ne_of_none h e)) c
  | _, _, .exc h n c hd nd q l => .exc (by rw [upd_ne (ne_of_none h e)]; exact h) (fun z => z.elim n (ne_of_none h e)) c (by rw [upd_ne (ne_of_none hd e)]; exact hd) (fun z => z.elim nd (ne_of_none hd e)) q (RpL.grow1 e l)
  | _, _, .dic h n q l => .dic (by rw [upd_ne (ne_of_none h e)]; exact h) (fun z => z.elim n (ne_of_none h e)) q (RpL.grow1 e l)
theorem RpL.grow1 {K : PySem.W.Frag} {M : MS} {H : Hp} {p : Addr} {o : HO} (e : H p = none) : ∀ {vs : List V} {ds : List D}, RpL K M H vs ds → RpL K (With M p) (upd H p o) vs ds
  | _, _, .nil => .nil
  | _, _, .cons h t => .cons (Rp.grow1 e h) (RpL.grow1 e t)
end
theorem RpL.length {K : PySem.W.Frag} {M : MS} {H : Hp} : ∀ {vs : List V} {ds : List D}, RpL K M H vs ds → vs.length = ds.length
  | _, _, .nil => rfl
  | _, _, .cons _ t => congrArg Nat.succ t.length
theorem RpL.get {K : PySem.W.Frag} {M : MS} {H : Hp} : ∀ {vs : List V} {ds : List D} {i : Nat} {d : D}, RpL K M H vs ds → ds[i]? = some d → ∃ v, vs[i]? = some v ∧ Rp K M H v d
  | _, _, _, _, .nil, e => by simp at e
  | _, _, 0, _, .cons r _, e => by simp at e; subst e; exact ⟨_, rfl, r⟩
  | _, _, i + 1, d, .cons _ t, e => by
    obtain ⟨v, h1, h2⟩ := RpL.get (i := i) (d := d) t (by simpa using e)
    exact ⟨v, by simpa using h1, h2⟩
theorem RpL.get' {K : PySem.W.Frag} {M : MS} {H : Hp} : ∀ {vs : List V} {ds : List D} {i : Nat} {v : V}, RpL K M H vs ds → vs[i]? = some v → ∃ d, ds[i]? = some d ∧ Rp K M H v d
  | _, _, _, _, .nil, e => by simp at e
  | _, _, 0, _, .cons r _, e => by simp at e; subst e; exact ⟨_, rfl, r⟩
  | _, _, i + 1, v, .cons _ t, e => by
    obtain ⟨d, h1, h2⟩ := RpL.get' (i := i) (v := v) t (by simpa using e)
    exact ⟨d, by simpa using h1, h2⟩
theorem RpL.append {K : PySem.W.Frag} {M : MS} {H : Hp} : ∀ {vs ws : List V} {ds es : List D}, RpL K M H vs ds → RpL K M H ws es → RpL K M H (vs ++ ws) (ds ++ es)
  | _, _, _, _, .nil, s => s
  | _, _, _, _, .cons r t, s => .cons r (RpL.append t s)
theorem RpL.take {K : PySem.W.Frag} {M : MS} {H : Hp} : ∀ {vs : List V} {ds : List D} (n : Nat), RpL K M H vs ds → RpL K M H (vs.take n) (ds.take n)
  | _, _, 0, _ => .nil
  | _, _, _ + 1, .nil => .nil
  | _, _, n + 1, .cons r t => .cons r (RpL.take n t)
theorem RpL.drop {K : PySem.W.Frag} {M : MS} {H : Hp} : ∀ {vs : List V} {ds : List D} (n : Nat), RpL K M H vs ds → RpL K M H (vs.drop n) (ds.drop n)
  | _, _, 0, r => r
  | _, _, _ + 1, .nil => .nil
  | _, _, n + 1, .cons _ t => RpL.drop n t
theorem RpL.set {K : PySem.W.Frag} {M : MS} {H : Hp} {v : V} {d : D} (r : Rp K M H v d) : ∀ {vs : List V} {ds : List D} (i : Nat), RpL K M H vs ds → RpL K M H (vs.set i v) (ds.set i d)
  | _, _, _, .nil => .nil
  | _, _, 0, .cons _ t => .cons r t
  | _, _, i + 1, .cons q t => .cons q (RpL.set r i t)
theorem RpL.snoc {K : PySem.W.Frag} {M : MS} {H : Hp} {v : V} {d : D} {vs : List V} {ds : List D} (h : RpL K M H vs ds) (r : Rp K M H v d) : RpL K M H (vs ++ [v]) (ds ++ [d]) := h.append (.cons r .nil)

/-! ### what may be changed -/
inductive MO where
  | l (ds : List D) | i (n : Str) (fs : List (Str × D))
instance : Coe (List D) MO := ⟨MO.l⟩
def MO.d : MO → D
  | .l ds => .lst ds
  | .i n fs => .ins n fs
inductive MR (K : PySem.W.Frag) (M : MS) (H : Hp) : HO → MO → Prop
  | l {xs : List V} {ds : List D} : RpL K M H xs ds → MR K M H (.lst xs) (.l ds)
  | i {C dx : Addr} {n : Str} {fs : List (Str × V)} {gs : List (Str × D)} : ClsAt K n C → fs.map (·.1) = gs.map (·.1) → RpL K M H (fs.map (·.2)) (gs.map (·.2)) → MR K M H (.ins C dx fs) (.i n gs)
theorem MR.move {K : PySem.W.Frag} {M M' : MS} {H H' : Hp} {o : HO} {m : MO} (mo : MOk M H) (v : Ev M H M' H') (h : MR K M H o m) : MR K M' H' o m := by
  cases h with
  | l h => exact .l (h.move mo v)
  | i c e h => exact .i c e (h.move mo v)
theorem MR.grow1 {K : PySem.W.Frag} {M : MS} {H : Hp} {p : Addr} {o u : HO} {m : MO} (e : H p = none) (h : MR K M H o m) : MR K (With M p) (upd H p u) o m := by
  cases h with
  | l h => exact .l (h.grow1 e)
  | i c q h => exact .i c q (h.grow1 e)
theorem MR.noTb {K : PySem.W.Frag} {M : MS} {H : Hp} {o : HO} {m : MO} (h : MR K M H o m) : NoTb o := by
  cases h <;> exact fun _ z => by cases z
theorem MR.noExt {K : PySem.W.Frag} {M : MS} {H : Hp} {o : HO} {m : MO} (h : MR K M H o m) : ∀ φ, o ≠ .ext φ := by
  cases h <;> exact fun _ z => by cases z
theorem MR.mut {K : PySem.W.Frag} {M : MS} {H : Hp} {o : HO} {m : MO} (h : MR K M H o m) : Mut (some o) := by
  cases h <;> exact trivial
theorem MR.rp {K : PySem.W.Frag} {M : MS} {H : Hp} {a : Addr} {o : HO} {m : MO} (h : MR K M H o m) (e : H a = some o) (n : ¬ M a) : Rp K M H (.ref a) m.d := by
  cases h with
  | l h => exact .lst e n h
  | i c q h => exact .ins e n c q h
theorem TbOk.setM {K : PySem.W.Frag} {M : MS} {H : Hp} {a : Addr} {o u : HO} {m : MO} (t : TbOk H) (q : H a = some o) (l : MR K M H o m) : TbOk (upd H a u) :=
  t.chg (fun o' e => by rw [q] at e; cases e; exact ⟨l.noTb, l.noExt⟩) (fun b o' n e => by rw [upd_ne n]; exact e)
theorem TbOk.setL {H : Hp} {a : Addr} {xs : List V} {u : HO} (t : TbOk H) (q : H a = some (.lst xs)) : TbOk (upd H a u) :=
  t.chg (fun o' e => by rw [q] at e; cases e; exact ⟨nt_lst, fun _ z => by cases z⟩) (fun b o' n e => by rw [upd_ne n]; exact e)
/-! ### slots -/
inductive Sl where
  | un | va (d : D) | ow (m : MO) | io (m : MO)
/-- what stays the same in a def's body -/
structure Bs where
  K : PySem.W.Frag
  H0 : Hp
  Mc : MS
  pa : Option Addr
  /-- objects that nobody may touch for now -/
  L : Addr → Option HO
/-- a slot's own list, or the one handed in -/
def Own (σ : L2.St) (s : List Sl) (a : Addr) : Prop := ∃ (i : Nat) (ds : MO), (s[i]? = some (.ow ds) ∨ s[i]? = some (.io ds)) ∧ σ[i]? = some (some (.ref a))

structure SR (B : Bs) (M : MS) (σ : L2.St) (H : Hp) (s : List Sl) : Prop where
  va : ∀ (i : Nat) (d : D), s[i]? = some (.va d) → ∃ v, σ[i]? = some (some v) ∧ Rp B.K M H v d
  ow : ∀ (i : Nat) (ds : MO), s[i]? = some (.ow ds) → ∃ a xs, σ[i]? = some (some (.ref a)) ∧ H a = some xs ∧ M a ∧ Fr0 B.H0 a ∧ MR B.K M H xs ds
  io : ∀ (i : Nat) (ds : MO), s[i]? = some (.io ds) → i = 0 ∧ ∃ a xs, B.pa = some a ∧ σ[0]? = some (some (.ref a)) ∧ H a = some xs ∧ M a ∧ MR B.K M H xs ds
  pa : ∀ a, B.pa = some a → B.Mc a ∧ ∃ ds : MO, s[0]? = some (Sl.io ds)
  ne : ∀ (i j : Nat) (ds es : MO) (a : Addr), i ≠ j → s[i]? = some (.ow ds) → s[j]? = some (.ow es) → σ[i]? = some (some (.ref a)) → σ[j]? = some (some (.ref a)) → False
  mo : MOk M H
  up : ∀ b, B.Mc b → M b
  dn : ∀ b, M b → B.Mc b ∨ Fr0 B.H0 b
  st : Step (fun b => B.pa = some b) B.H0 H
  bm : MOk B.Mc B.H0
  lk : ∀ b o, B.L b = some o → M b ∧ H b = some o ∧ ¬ Own σ s b
  len : s.length = σ.length
  tb : TbOk H

theorem nth_set {α : Type} {l : List α} {i j : Nat} {x y : α} (h : (l.set i x)[j]? = some y) : (i = j ∧ y = x) ∨ (i ≠ j ∧ l[j]? = some y) := by
  by_cases e : i = j
  · subst e
    refine .inl ⟨rfl, ?_⟩
    by_cases hi : i < l.length
    · rw [List.getElem?_set_self hi] at h
      exact (Option.some.inj h).symm
    · rw [List.getElem?_eq_none (by simpa using hi)] at h
      cases h
  · rw [List.getElem?_set_ne e] at h
    exact .inr ⟨e, h⟩
/-- what is owned behind a store at i was so, or is what is stored -/
theorem Own.of_set {σ : L2.St} {s : List Sl} {i : Nat} {x : Option V} {y : Sl} {b : Addr} (h : Own (σ.set i x) (s.set i y) b) : Own σ s b ∨ ((∃ ds, y = .ow ds ∨ y = .io ds) ∧ x = some (.ref b)) := by
  obtain ⟨j, ds, h1, h2⟩ := h
  rcases nth_set h2 with ⟨rfl, e⟩ | ⟨n, h2⟩
  · rcases h1 with h1 | h1
    · rcases nth_set h1 with ⟨_, e1⟩ | ⟨n, _⟩
      · exact .inr ⟨⟨ds, .inl e1.symm⟩, e.symm⟩
      · exact absurd rfl n
    · rcases nth_set h1 with ⟨_, e1⟩ | ⟨n, _⟩
      · exact .inr ⟨⟨ds, .inr e1.symm⟩, e.symm⟩
      · exact absurd rfl n
  · rw [List.getElem?_set_ne n] at h1
    exact .inl ⟨j, ds, h1, h2⟩
theorem Own.of_set2 {σ : L2.St} {s : List Sl} {i : Nat} {y : Sl} {b : Addr} (h : Own σ (s.set i y) b) : Own σ s b ∨ ((∃ ds, y = .ow ds ∨ y = .io ds) ∧ σ[i]? = some (some (.ref b))) := by
  obtain ⟨j, ds, h1, h2⟩ := h
  by_cases e : i = j
  · subst e
    rcases h1 with h1 | h1
    · rcases nth_set h1 with ⟨_, e1⟩ | ⟨n, _⟩
      · exact .inr ⟨⟨ds, .inl e1.symm⟩, h2⟩
      · exact absurd rfl n
    · rcases nth_set h1 with ⟨_, e1⟩ | ⟨n, _⟩
      · exact .inr ⟨⟨ds, .inr e1.symm⟩, h2⟩
      · exact absurd rfl n
  · rw [List.getElem?_set_ne e] at h1
    exact .inl ⟨j, ds, h1, h2⟩

section
variable {B : Bs} {M M' : MS} {σ : L2.St} {H H' : Hp} {s : List Sl}
/-- the heap grows -/
theorem SR.gro (r : SR B M σ H s) (g : Gro H H') : SR B M σ H' s where
  va := fun i d h => let ⟨v, e, q⟩ := r.va i d h; ⟨v, e, q.move r.mo (.gro g)⟩
  ow := fun i ds h => let ⟨a, xs, e, q, m, n, l⟩ := r.ow i ds h; ⟨a, xs, e, g.e _ _ q l.noTb, m, n, l.move r.mo (.gro g)⟩
  io := fun i ds h => let ⟨z, a, xs, p, e, q, m, l⟩ := r.io i ds h; ⟨z, a, xs, p, e, g.e _ _ q l.noTb, m, l.move r.mo (.gro g)⟩
  pa := r.pa
  ne := r.ne
  mo := r.mo.gro g
  up := r.up
  dn := r.dn
  st := r.st.trans (.gro g) .rfl
  bm := r.bm
  lk := fun b o e => let ⟨h1, h2, h3⟩ := r.lk b o e; ⟨h1, g.e _ _ h2 (r.mo.noTb h1 h2), h3⟩
  len := r.len
  tb := g.t r.tb
theorem SR.grow (r : SR B M σ H s) (g : Same H H') : SR B M σ H' s := r.gro (.same g)
/-- a name is stored -/
theorem SR.put {i : Nat} {v : V} {d : D} (r : SR B M σ H s) (h : Rp B.K M H v d) (hi : ∀ ds : MO, s[i]? ≠ some (.io ds)) (hl : i < s.length) : SR B M (σ.set i (some v)) H (s.set i (.va d)) where
  va := fun j e h1 => by
    rcases nth_set h1 with ⟨rfl, e1⟩ | ⟨n, h2⟩
    · cases e1
      exact ⟨v, by rw [List.getElem?_set_self (r.len ▸ hl)], h⟩
    · rw [List.getElem?_set_ne n]
      exact r.va j e h2
  ow := fun j e h1 => by
    rcases nth_set h1 with ⟨rfl, e1⟩ | ⟨n, h2⟩
    · cases e1
    · rw [List.getElem?_set_ne n]
      exact r.ow j e h2
  io := fun j e h1 => by
    rcases nth_set h1 with ⟨rfl, e1⟩ | ⟨n, h2⟩
    · cases e1
    · have q := r.io j e h2
      rw [List.getElem?_set_ne (q.1 ▸ n)]
      exact q
  pa := fun a ha => by
    obtain ⟨h1, ds, h2⟩ := r.pa a ha
    refine ⟨h1, ds, ?_⟩
    have ei : i ≠ 0 := fun z => hi ds (by rw [z]; exact h2)
    rw [List.getElem?_set_ne ei]
    exact h2
  ne := fun j k ds es a n h1 h2 h3 h4 => by
    rcases nth_set h1 with ⟨rfl, e1⟩ | ⟨n1, h1⟩
    · cases e1
    · rcases nth_set h2 with ⟨rfl, e1⟩ | ⟨n2, h2⟩
      · cases e1
      · rw [List.getElem?_set_ne n1] at h3
        rw [List.getElem?_set_ne n2] at h4
        exact r.ne j k ds es a n h1 h2 h3 h4
  mo := r.mo
  up := r.up
  dn := r.dn
  st := r.st
  bm := r.bm
  lk := fun b o e => by
    obtain ⟨h1, h2, h3⟩ := r.lk b o e
    refine ⟨h1, h2, fun z => ?_⟩
    rcases z.of_set with z | ⟨⟨ds, z | z⟩, _⟩
    · exact h3 z
    · cases z
    · cases z
  len := by rw [List.length_set, List.length_set]; exact r.len
  tb := r.tb
/-- a name holds a list of its own -/
theorem SR.putOw {i : Nat} {p : Addr} {xs : HO} {ds : MO} (r : SR B M σ H s) (hp : H p = some xs) (hm : M p) (h0 : Fr0 B.H0 p) (hx : MR B.K M H xs ds) (hn : ∀ (j : Nat) (es : MO), s[j]? = some (.ow es) → σ[j]? ≠ some (some (.ref p)))
    (hL : B.L p = none) (hi : ∀ ds : MO, s[i]? ≠ some (.io ds)) (hl : i < s.length) : SR B M (σ.set i (some (.ref p))) H (s.set i (.ow ds)) where
  va := fun j e h1 => by
    rcases nth_set h1 with ⟨rfl, e1⟩ | ⟨n, h2⟩
    · cases e1
    · rw [List.getElem?_set_ne n]
      exact r.va j e h2
  ow := fun j e h1 => by
    rcases nth_set h1 with ⟨rfl, e1⟩ | ⟨n, h2⟩
    · cases e1
      exact ⟨p, xs, by rw [List.getElem?_set_self (r.len ▸ hl)], hp, hm, h0, hx⟩
    · rw [List.getElem?_set_ne n]
      exact r.ow j e h2
  io := fun j e h1 => by
    rcases nth_set h1 with ⟨rfl, e1⟩ | ⟨n, h2⟩
    · cases e1
    · have q := r.io j e h2
      rw [List.getElem?_set_ne (q.1 ▸ n)]
      exact q
  pa := fun a ha => by
    obtain ⟨h1, ds, h2⟩ := r.pa a ha
    refine ⟨h1, ds, ?_⟩
    have ei : i ≠ 0 := fun z => hi ds (by rw [z]; exact h2)
    rw [List.getElem?_set_ne ei]
    exact h2
  ne := fun j k es fs a n h1 h2 h3 h4 => by
    rcases nth_set h1 with ⟨rfl, e1⟩ | ⟨n1, h1⟩
    · rcases nth_set h2 with ⟨rfl, e1⟩ | ⟨n2, h2⟩
      · exact n rfl
      · rw [List.getElem?_set_self (r.len ▸ hl)] at h3
        rw [List.getElem?_set_ne n2] at h4
        cases h3
        exact hn k _ h2 h4
    · rcases nth_set h2 with ⟨rfl, e1⟩ | ⟨n2, h2⟩
      · rw [List.getElem?_set_self (r.len ▸ hl)] at h4
        rw [List.getElem?_set_ne n1] at h3
        cases h4
        exact hn j _ h1 h3
      · rw [List.getElem?_set_ne n1] at h3
        rw [List.getElem?_set_ne n2] at h4
        exact r.ne j k es fs a n h1 h2 h3 h4
  mo := r.mo
  up := r.up
  dn := r.dn
  st := r.st
  bm := r.bm
  lk := fun b o e => by
    obtain ⟨h1, h2, h3⟩ := r.lk b o e
    refine ⟨h1, h2, fun z => ?_⟩
    rcases z.of_set with z | ⟨_, z⟩
    · exact h3 z
    · cases z
      rw [hL] at e
      cases e
  len := by rw [List.length_set, List.length_set]; exact r.len
  tb := r.tb
/-- a new list, owned -/
theorem SR.laidO {p : Addr} {xs : HO} (mu : Mut (some xs)) (r : SR B M σ H s) (e : H p = none) : SR B (With M p) σ (upd H p xs) s := by
  have g0 : Same H (upd H p xs) := fun b o h => by rw [upd_ne (ne_of_none h e)]; exact h
  have g : Gro H (upd H p xs) := .same g0
  have mW : MOk (With M p) (upd H p xs) := fun b z => by
    by_cases hb : b = p
    · subst hb; rw [upd_same]; exact mu
    · rw [upd_ne hb]
      exact z.elim (r.mo b) fun q => absurd q hb
  have mv : ∀ {v : V} {d : D}, Rp B.K M H v d → Rp B.K (With M p) (upd H p xs) v d := fun {v d} q => Rp.grow1 e q
  have mvL : ∀ {v : List V} {d : List D}, RpL B.K M H v d → RpL B.K (With M p) (upd H p xs) v d := fun {v d} q => RpL.grow1 e q
  exact {
    va := fun i d h => let ⟨v, e, q⟩ := r.va i d h; ⟨v, e, mv q⟩
    ow := fun i ds h => let ⟨a, xs, e', q, m, n, l⟩ := r.ow i ds h; ⟨a, xs, e', g0 _ _ q, .inl m, n, l.grow1 e⟩
    io := fun i ds h => let ⟨z, a, xs, p, e', q, m, l⟩ := r.io i ds h; ⟨z, a, xs, p, e', g0 _ _ q, .inl m, l.grow1 e⟩
    pa := r.pa
    ne := r.ne
    mo := mW
    up := fun b z => .inl (r.up b z)
    dn := fun b z => z.elim (r.dn b) fun q => .inr (fun o h => by
      subst q
      by_cases t : NoTb o
      · exfalso
        by_cases hp : B.pa = some b
        · obtain ⟨h1, ds, h2⟩ := r.pa b hp
          obtain ⟨_, a, xs', h3, _, h5, _⟩ := r.io 0 ds h2
          rw [hp] at h3; cases h3
          rw [e] at h5; cases h5
        · have := r.st b o h hp t
          rw [e] at this; cases this
      · exact tb_of t)
    st := r.st.trans (.gro g) .rfl
    bm := r.bm
    lk := fun b o e => let ⟨h1, h2, h3⟩ := r.lk b o e; ⟨.inl h1, g0 _ _ h2, h3⟩
    len := r.len
    tb := g.t r.tb }
theorem SR.laid {p : Addr} {xs : List V} (r : SR B M σ H s) (e : H p = none) : SR B (With M p) σ (upd H p (.lst xs)) s := r.laidO (xs := .lst xs) trivial e
/-- the list of one's own at slot k (or the one handed in) has changed -/
theorem SR.mutated {k : Nat} {a : Addr} {xs : HO} {ds es : MO} {io : Bool} (r : SR B M σ H s) (hk : s[k]? = some (if io then .io ds else .ow ds)) (hs : σ[k]? = some (some (.ref a))) (ha : H' a = some xs) (hx : MR B.K M H' xs es) (st : Step (fun b => b = a) H H') (tk : TbOk H') :
    SR B M σ H' (s.set k (if io then .io es else .ow es)) ∧ Ev M H M H' := by
  have hm : M a ∧ (io = false → Fr0 B.H0 a) ∧ (io = true → B.pa = some a ∧ k = 0) := by
    cases io with
    | true =>
      obtain ⟨z, a', xs', h1, h2, h3, h4, h5⟩ := r.io k ds hk
      subst z
      rw [h2] at hs; cases hs
      exact ⟨h4, (fun z => by cases z), fun _ => ⟨h1, rfl⟩⟩
    | false =>
      obtain ⟨a', xs', h1, h2, h3, h4, h5⟩ := r.ow k ds hk
      rw [h1] at hs; cases hs
      exact ⟨h3, fun _ => h4, (fun z => by cases z)⟩
  obtain ⟨hM, hO, hI⟩ := hm
  have ev : Ev M H M H' := ⟨fun _ z => .inl z, fun b o e n t => st b o e (fun z => n (z ▸ hM)) t⟩
  have hl : k < s.length := (List.getElem?_eq_some_iff.mp hk).1
  refine ⟨?_, ev⟩
  exact {
    va := fun j d h1 => by
      rcases nth_set h1 with ⟨rfl, e1⟩ | ⟨n, h2⟩
      · cases io <;> cases e1
      · obtain ⟨v, e, q⟩ := r.va j d h2
        exact ⟨v, e, q.move r.mo ev⟩
    ow := fun j d h1 => by
      rcases nth_set h1 with ⟨rfl, e1⟩ | ⟨n, h2⟩
      · cases io with
        | true => cases e1
        | false =>
          cases e1
          exact ⟨a, xs, hs, ha, hM, hO rfl, hx⟩
      · obtain ⟨a2, xs2, e, q, m2, n2, l2⟩ := r.ow j d h2
        have ne : a2 ≠ a := fun z => by
          subst z
          cases io with
          | true =>
            have q0 := r.bm.thereF n2
            exact q0 (r.pa _ (hI rfl).1).1
          | false => exact r.ne k j ds d a2 n hk h2 hs e
        exact ⟨a2, xs2, e, st _ _ q ne l2.noTb, m2, n2, l2.move r.mo ev⟩
    io := fun j d h1 => by
      rcases nth_set h1 with ⟨rfl, e1⟩ | ⟨n, h2⟩
      · cases io with
        | false => cases e1
        | true =>
          cases e1
          obtain ⟨p1, p2⟩ := hI rfl
          subst p2
          exact ⟨rfl, a, xs, p1, hs, ha, hM, hx⟩
      · obtain ⟨z, a2, xs2, p2, e, q, m2, l2⟩ := r.io j d h2
        have ne : a2 ≠ a := fun y => by
          subst y
          cases io with
          | true => exact n ((hI rfl).2.trans z.symm)
          | false => exact r.bm.thereF (hO rfl) (r.pa _ p2).1
        exact ⟨z, a2, xs2, p2, e, st _ _ q ne l2.noTb, m2, l2.move r.mo ev⟩
    pa := fun b hb => by
      obtain ⟨h1, fs, h2⟩ := r.pa b hb
      refine ⟨h1, ?_⟩
      by_cases hk0 : k = 0
      · subst hk0
        rw [h2] at hk
        cases io with
        | false => cases hk
        | true => exact ⟨es, by rw [List.getElem?_set_self hl]; rfl⟩
      · exact ⟨fs, by rw [List.getElem?_set_ne hk0]; exact h2⟩
    ne := fun i j d1 d2 b n h1 h2 h3 h4 => by
      have old : ∀ (i : Nat) (d : MO), (s.set k (if io = true then Sl.io es else Sl.ow es))[i]? = some (.ow d) → ∃ d', s[i]? = some (.ow d') := fun i d h => by
        rcases nth_set h with ⟨rfl, e1⟩ | ⟨n, h2⟩
        · cases io with
          | true => cases e1
          | false => exact ⟨ds, hk⟩
        · exact ⟨d, h2⟩
      obtain ⟨d1', h1'⟩ := old i d1 h1
      obtain ⟨d2', h2'⟩ := old j d2 h2
      exact r.ne i j d1' d2' b n h1' h2' h3 h4
    mo := fun b z => by
      by_cases hb : b = a
      · subst hb; rw [ha]; exact hx.mut
      · have q := r.mo b z
        cases e : H b with
        | none => rw [e] at q; exact q.elim
        | some o => rw [st b o e hb (r.mo.noTb z e), ← e]; exact q
    up := r.up
    dn := r.dn
    st := fun b o h n t => st b o (r.st b o h n t) (fun z => by
      subst z
      cases io with
      | true => exact n (hI rfl).1
      | false => exact (hO rfl).no h t) t
    bm := r.bm
    lk := fun b o e => by
      obtain ⟨h1, h2, h3⟩ := r.lk b o e
      have hO : Own σ s a := ⟨k, ds, by cases io with
        | true => exact .inr hk
        | false => exact .inl hk, hs⟩
      have nb : b ≠ a := fun z => h3 (z ▸ hO)
      refine ⟨h1, st _ _ h2 nb (r.mo.noTb h1 h2), fun z => ?_⟩
      rcases z.of_set2 with z | ⟨_, z⟩
      · exact h3 z
      · rw [hs] at z
        cases z
        exact nb rfl
    len := by rw [List.length_set]; exact r.len
    tb := tk }
end
end Fx

set_option Elab.async false
set_option linter.all false
set_option maxRecDepth 100000
namespace Fx
variable [Tbl]
open PySem L2

/-- an exception: its class, its fields -/
structure XD where
  C : Str
  fs : List (Str × D)
def XR (K : PySem.W.Frag) (M : MS) (H : Hp) (cls : Value) (od : Option Addr) (x : XD) : Prop :=
  ∃ C : Addr, ClsAt K x.C C ∧ cls = .ref C ∧ ((od = none ∧ x.fs = []) ∨ ∃ (d : Addr) (vs : List (Str × V)), od = some d ∧ H d = some (.xd vs) ∧ vs.map (·.1) = x.fs.map (·.1) ∧ RpL K M H (vs.map (·.2)) (x.fs.map (·.2)))
/-- what a piece comes to -/
inductive R (α : Type) where
  | ok (a : α) (s : List Sl) | er (x : XD) (s : List Sl) | no
def R.bind {α β : Type} (r : R α) (f : α → List Sl → R β) : R β :=
  match r with
  | .ok a s => f a s
  | .er x s => .er x s
  | .no => .no
@[simp] theorem R.bind_ok {α β : Type} {a : α} {s : List Sl} {f : α → List Sl → R β} : (R.ok a s).bind f = f a s := rfl
@[simp] theorem R.bind_er {α β : Type} {x : XD} {s : List Sl} {f : α → List Sl → R β} : (R.er x s).bind f = .er x s := rfl
@[simp] theorem R.bind_no {α β : Type} {f : α → List Sl → R β} : (R.no).bind f = .no := rfl
abbrev F (α : Type) := List Sl → R α
abbrev RelT (β α : Type) := MS → Hp → β → α → Prop

variable {α β γ δ : Type}
def Post (B : Bs) (W : WX) (rho : RelT β α) (M : MS) (H : Hp) (σ : L2.St) (r : R α) (Q : β → Hp → Prop) : Prop :=
  match r with
  | .ok d s' => ∀ v H' M', SR B M' σ H' s' → rho M' H' v d → Ev M H M' H' → Q v H'
  | .er x s' => ∀ cls od H' M', SR B M' σ H' s' → XR B.K M' H' cls od x → Ev M H M' H' → W cls od σ H'
  | .no => False
def tP (B : Bs) (W : WX) (rho : RelT β α) (f : F α) : L2.St → Hp → (β → Hp → Prop) → Prop := fun σ H Q => ∃ M s, SR B M σ H s ∧ Post B W rho M H σ (f s) Q
section
variable {B : Bs} {W : WX} {rho : RelT β α} {rho' : RelT δ γ} {M M' : MS} {σ : L2.St} {H H' : Hp} {s : List Sl}
theorem Post.later {r : R α} {Q : β → Hp → Prop} (h : Post B W rho M H σ r Q) (ev : Ev M H M' H') : Post B W rho M' H' σ r Q := by
  cases r with
  | ok d s' => exact fun v H2 M2 a b c => h v H2 M2 a b (ev.trans c)
  | er x s' => exact fun cls od H2 M2 a b c => h cls od H2 M2 a b (ev.trans c)
  | no => exact h
theorem Post.bind {r : R α} {g : α → F γ} {Q : δ → Hp → Prop} {Q1 : β → Hp → Prop} (h : Post B W rho' M H σ (r.bind g) Q)
    (k : ∀ d s1 M1 H1 x, SR B M1 σ H1 s1 → rho M1 H1 x d → Ev M H M1 H1 → Post B W rho' M1 H1 σ (g d s1) Q → Q1 x H1) : Post B W rho M H σ r Q1 := by
  cases r with
  | ok d s' => exact fun v H2 M2 a b c => k d s' M2 H2 v a b c (Post.later h c)
  | er x s' => exact h
  | no => exact h
theorem Post.out {d : α} {Q : β → Hp → Prop} {v : β} (h : Post B W rho M H σ (.ok d s) Q) (r : SR B M σ H s) (q : rho M H v d) : Q v H := h v H M r q .rfl
theorem Post.grow {d : α} {Q : β → Hp → Prop} {v : β} (h : Post B W rho M H σ (.ok d s) Q) (r : SR B M σ H s) (g : Same H H') (q : rho M H' v d) : Q v H' := h v H' M (r.grow g) q (.same g)
theorem Post.gro {d : α} {Q : β → Hp → Prop} {v : β} (h : Post B W rho M H σ (.ok d s) Q) (r : SR B M σ H s) (g : Gro H H') (q : rho M H' v d) : Q v H' := h v H' M (r.gro g) q (.gro g)
end

/-! ### judgements -/
abbrev rhoD (B : Bs) : RelT V D := fun M H v d => Rp B.K M H v d
abbrev rhoL (B : Bs) : RelT (List V) (List D) := fun M H v d => RpL B.K M H v d
abbrev rhoB : RelT Bool Bool := fun _ _ b c => b = c
abbrev rhoI : RelT (Option Int) (Option Int) := fun _ _ b c => b = c
def SE (X : Cx) (B : Bs) (W : WX) (e : Expr) (f : F D) : Prop := PE X e (tP B W (rhoD B) f)
def SA (X : Cx) (B : Bs) (W : WX) (es : List Expr) (f : F (List D)) : Prop := PA X es (tP B W (rhoL B) f)
def ST (X : Cx) (B : Bs) (W : WX) (e : Expr) (f : F Bool) : Prop := PT X e (tP B W rhoB f)
def SO (X : Cx) (B : Bs) (W : WX) (e : Option Expr) (f : F (Option Int)) : Prop := PO X e (tP B W rhoI f)

theorem PE.imp {X : Cx} {e : Expr} {t u : TE} (h : PE X e t) (k : ∀ σ H Q, u σ H Q → t σ H Q) : PE X e u := ⟨fun pins s σ H Q I q => h.run pins s σ H Q I (k σ H Q q)⟩
theorem PT.imp {X : Cx} {e : Expr} {t u : TT} (h : PT X e t) (k : ∀ σ H Q, u σ H Q → t σ H Q) : PT X e u := ⟨fun pins s σ H Q I q => h.run pins s σ H Q I (k σ H Q q)⟩
theorem PA.imp {X : Cx} {es : List Expr} {t u : TA} (h : PA X es t) (k : ∀ σ H Q, u σ H Q → t σ H Q) : PA X es u := ⟨fun pos pins s σ H Q I q => h.run pos pins s σ H Q I (k σ H Q q)⟩
theorem PS.imp {X : Cx} {st : Stmt} {t u : TS} (h : PS X st t) (k : ∀ D σ H, u D σ H → t D σ H) : PS X st u := ⟨fun pins s σ H D I q => h.run pins s σ H D I (k D σ H q)⟩
theorem PSs.imp {X : Cx} {st : List Stmt} {t u : TS} (h : PSs X st t) (k : ∀ D σ H, u D σ H → t D σ H) : PSs X st u := ⟨fun pins s σ H D I q => h.run pins s σ H D I (k D σ H q)⟩
theorem PG.imp {X : Cx} {tg : Expr} {t u : TG} (h : PG X tg t) (k : ∀ v σ H Q, u v σ H Q → t v σ H Q) : PG X tg u := ⟨fun pins s σ H v w Q I r q => h.run pins s σ H v w Q I r (k v σ H Q q)⟩

section
variable {X : Cx} {B : Bs} {W : WX} {a b c : Expr} {f g h : F D} {pos : Pos}

/-! ### names, constants -/
def nameF (i : Nat) : F D := fun s => match s[i]? with
  | some (.va d) => .ok d s
  | some (.ow m) => .ok m.d (s.set i (.va m.d))
  | _ => .no
/-- an own list becomes a value -/
theorem SR.freeze {M : MS} {σ : L2.St} {H : Hp} {s : List Sl} {i : Nat} {ds : MO} (r : SR B M σ H s) (h : s[i]? = some (.ow ds)) : ∃ (a : Addr) (xs : HO), σ[i]? = some (some (.ref a)) ∧ H a = some xs ∧ MR B.K (Wout M a) H xs ds ∧ SR B (Wout M a) σ H (s.set i (.va ds.d)) := by
  obtain ⟨a, xs, e, q, m, n, l⟩ := r.ow i ds h
  have sb : Sub (Wout M a) M := fun b z => z.1
  have hl : i < s.length := (List.getElem?_eq_some_iff.mp h).1
  have mv : ∀ {v : V} {d : D}, Rp B.K M H v d → Rp B.K (Wout M a) H v d := fun q => q.move r.mo (.sub sb)
  have mvL : ∀ {v : HO} {d : MO}, MR B.K M H v d → MR B.K (Wout M a) H v d := fun q => q.move r.mo (.sub sb)
  have nmc : ¬ B.Mc a := fun z => r.bm.thereF n z
  refine ⟨a, xs, e, q, mvL l, ?_⟩
  exact {
    va := fun j d h1 => by
      rcases nth_set h1 with ⟨rfl, e1⟩ | ⟨n1, h2⟩
      · cases e1
        exact ⟨_, e, (mvL l).rp q (fun z => z.2 rfl)⟩
      · obtain ⟨v, e2, q2⟩ := r.va j d h2
        exact ⟨v, e2, mv q2⟩
    ow := fun j es h1 => by
      rcases nth_set h1 with ⟨rfl, e1⟩ | ⟨n1, h2⟩
      · cases e1
      · obtain ⟨a2, xs2, e2, q2, m2, n2, l2⟩ := r.ow j es h2
        exact ⟨a2, xs2, e2, q2, ⟨m2, fun z => r.ne i j ds es a n1 h h2 e (z ▸ e2)⟩, n2, mvL l2⟩
    io := fun j es h1 => by
      rcases nth_set h1 with ⟨rfl, e1⟩ | ⟨n1, h2⟩
      · cases e1
      · obtain ⟨z, a2, xs2, p2, e2, q2, m2, l2⟩ := r.io j es h2
        refine ⟨z, a2, xs2, p2, e2, q2, ⟨m2, fun z => nmc (z ▸ (r.pa a2 p2).1)⟩, mvL l2⟩
    pa := fun b hb => by
      obtain ⟨h1, es, h2⟩ := r.pa b hb
      refine ⟨h1, es, ?_⟩
      have ei : i ≠ 0 := fun z => by rw [z, h2] at h; cases h
      rw [List.getElem?_set_ne ei]
      exact h2
    ne := fun j k es fs b n1 h1 h2 h3 h4 => by
      rcases nth_set h1 with ⟨rfl, e1⟩ | ⟨_, h1⟩
      · cases e1
      · rcases nth_set h2 with ⟨rfl, e1⟩ | ⟨_, h2⟩
        · cases e1
        · exact r.ne j k es fs b n1 h1 h2 h3 h4
    mo := fun b z => r.mo b z.1
    up := fun b z => ⟨r.up b z, fun y => nmc (y ▸ z)⟩
    dn := fun b z => r.dn b z.1
    st := r.st
    bm := r.bm
    lk := fun b o e2 => by
      obtain ⟨h1, h2, h3⟩ := r.lk b o e2
      have nb : b ≠ a := fun z => h3 (z ▸ ⟨i, ds, .inl h, e⟩)
      refine ⟨⟨h1, nb⟩, h2, fun z => ?_⟩
      rcases z.of_set2 with z | ⟨⟨ds, z | z⟩, _⟩
      · exact h3 z
      · cases z
      · cases z
    len := by rw [List.length_set]; exact r.len
    tb := r.tb }
theorem se_name (i : Nat) {x : Str} (hN : X.N[i]? = some x := by rfl) (hv : Vis X.env.scope x := by first | exact Or.inl rfl | exact Or.inr (Or.inl rfl) | exact Or.inr (Or.inr rfl)) (hd : (x == ("__debug__" : Str)) = false := by decide)
    (hcd : (x == ("__classdict__" : Str)) = false := by decide) : SE X B W (.Name x pos) (nameF i) := by
  refine PE.imp (pe_var hN hv hd hcd) fun σ H Q ⟨M, s, r, p⟩ => ?_
  unfold nameF at p
  split at p
  · rename_i d e
    obtain ⟨v, e1, q⟩ := r.va i d e
    exact ⟨v, e1, p.out r q⟩
  · rename_i ds e
    obtain ⟨a, xs, e1, q, l, r'⟩ := r.freeze e
    exact ⟨_, e1, p _ H _ r' (l.rp q (fun z => z.2 rfl)) (.sub fun b z => z.1)⟩
  · exact p.elim
def cF (d : D) : F D := fun s => .ok d s
theorem se_int {i : Int} {j} : SE X B W (.Constant (.int i) j pos) (cF (.int i)) := PE.imp pe_int fun σ H Q ⟨M, s, r, p⟩ => p.out r (.int i)
theorem se_bl {i : Bool} {j} : SE X B W (.Constant (.bool i) j pos) (cF (.bl i)) := PE.imp pe_bl fun σ H Q ⟨M, s, r, p⟩ => p.out r (.bl i)
theorem se_non {j} : SE X B W (.Constant .none j pos) (cF .non) := PE.imp pe_non fun σ H Q ⟨M, s, r, p⟩ => p.out r .non
theorem se_str {x : Str} {j} : SE X B W (.Constant (.str x) j pos) (cF (.str x)) := PE.imp pe_str fun σ H Q ⟨M, s, r, p⟩ => p.out r (.str x)
/-- a module's constant -/
structure Glb (X : Cx) (B : Bs) (x : Str) (d : D) : Prop where
  ex : ∃ (v : V) (u : Value), X.mg x = some u ∧ RelV v u ∧ ∀ M H, Rp B.K M H v d
theorem se_glob {x : Str} {d : D} (hg : Gl X x) (h : Glb X B x d) (hd : (x == ("__debug__" : Str)) = false := by decide) : SE X B W (.Name x pos) (cF d) := by
  obtain ⟨v, u, hm, rv, q⟩ := h.ex
  exact PE.imp (pe_glob hg hm rv hd) fun σ H Q ⟨M, s, r, p⟩ => p.out r (q M H)
theorem se_bltn {x : Str} {n : String} (hg : Gl X x) (hm : X.mg x = none) (hv : bootBuiltins x = some (.type n)) (hn : x ≠ "__name__" := by decide) (hd : (x == ("__debug__" : Str)) = false := by decide) : SE X B W (.Name x pos) (cF (.ty n)) :=
  PE.imp (pe_bltn (v := .ty n) hg hm hv rfl hn hd) fun σ H Q ⟨M, s, r, p⟩ => p.out r (.ty n)

/-! ### operators -/
/-- what an operator asks, and what it gives -/
def Op2 (K : PySem.W.Frag) (r : R2) (o : D → D → Option D) : Prop := ∀ (x y d : D), o x y = some d → ∀ (M : MS) (H : Hp) (v u : V) (Q : VK), MOk M H → Rp K M H v x → Rp K M H u y → (∀ w H', Same H H' → Rp K M H' w d → Q w H') → r v u H Q
def Op1 (K : PySem.W.Frag) (r : V → Hp → VK → Prop) (o : D → Option D) : Prop := ∀ (x d : D), o x = some d → ∀ (M : MS) (H : Hp) (v : V) (Q : VK), MOk M H → Rp K M H v x → (∀ w H', Same H H' → Rp K M H' w d → Q w H') → r v H Q
def OpN (K : PySem.W.Frag) (r : List V → Hp → VK → Prop) (o : List D → Option D) : Prop := ∀ (xs : List D) (d : D), o xs = some d → ∀ (M : MS) (H : Hp) (vs : List V) (Q : VK), MOk M H → RpL K M H vs xs → (∀ w H', Same H H' → Rp K M H' w d → Q w H') → r vs H Q
def toR (o : Option D) (s : List Sl) : R D := match o with
  | some d => .ok d s
  | none => .no
def op2F (o : D → D → Option D) (f g : F D) : F D := fun s => (f s).bind fun x s1 => (g s1).bind fun y s2 => toR (o x y) s2
def op1F (o : D → Option D) (f : F D) : F D := fun s => (f s).bind fun x s1 => toR (o x) s1
theorem two_run {r : R2} {o : D → D → Option D} (hr : Op2 B.K r o) {σ : L2.St} {H : Hp} {Q : VK} (p : tP B W (rhoD B) (op2F o f g) σ H Q) : tOp r (tP B W (rhoD B) f) (tP B W (rhoD B) g) σ H Q := by
  obtain ⟨M, s, r, p⟩ := p
  refine ⟨M, s, r, Post.bind p fun x s1 M1 H1 v r1 q1 ev1 p1 => ⟨M1, s1, r1, Post.bind p1 fun y s2 M2 H2 u r2 q2 ev2 p2 => ?_⟩⟩
  unfold toR at p2
  split at p2
  · rename_i d e
    exact hr x y d e M2 H2 v u Q r2.mo (q1.move r1.mo ev2) q2 fun w H' sm q => p2.grow r2 sm q
  · exact p2.elim
theorem one_run {r : V → Hp → VK → Prop} {o : D → Option D} (hr : Op1 B.K r o) {σ : L2.St} {H : Hp} {Q : VK} (p : tP B W (rhoD B) (op1F o f) σ H Q) : tUn r (tP B W (rhoD B) f) σ H Q := by
  obtain ⟨M, s, r, p⟩ := p
  refine ⟨M, s, r, Post.bind p fun x s1 M1 H1 v r1 q1 ev1 p1 => ?_⟩
  unfold toR at p1
  split at p1
  · rename_i d e
    exact hr x d e M1 H1 v Q r1.mo q1 fun w H' sm q => p1.grow r1 sm q
  · exact p1.elim
/-- .. where the tables may be written meanwhile -/
def Op2T (K : PySem.W.Frag) (r : R2) (o : D → D → Option D) : Prop := ∀ (x y d : D), o x y = some d → ∀ (M : MS) (H : Hp) (v u : V) (Q : VK), MOk M H → TbOk H → Rp K M H v x → Rp K M H u y → (∀ w H', Gro H H' → Rp K M H' w d → Q w H') → r v u H Q
theorem Op2.t {K : PySem.W.Frag} {r : R2} {o : D → D → Option D} (h : Op2 K r o) : Op2T K r o := fun x y d e M H v u Q m _ qx qy k => h x y d e M H v u Q m qx qy fun w H' sm q => k w H' (.same sm) q
theorem two_runT {r : R2} {o : D → D → Option D} (hr : Op2T B.K r o) {σ : L2.St} {H : Hp} {Q : VK} (p : tP B W (rhoD B) (op2F o f g) σ H Q) : tOp r (tP B W (rhoD B) f) (tP B W (rhoD B) g) σ H Q := by
  obtain ⟨M, s, r, p⟩ := p
  refine ⟨M, s, r, Post.bind p fun x s1 M1 H1 v r1 q1 ev1 p1 => ⟨M1, s1, r1, Post.bind p1 fun y s2 M2 H2 u r2 q2 ev2 p2 => ?_⟩⟩
  unfold toR at p2
  split at p2
  · rename_i d e
    exact hr x y d e M2 H2 v u Q r2.mo r2.tb (q1.move r1.mo ev2) q2 fun w H' sm q => p2.gro r2 sm q
  · exact p2.elim
theorem se_cmpT {op : CmpOp} {r : R2} {o : D → D → Option D} (ho : OpR X (compareOp op) r) (hr : Op2T B.K r o) (ha : SE X B W a f) (hb : SE X B W b g) (hm : behindInMarks op b = false := by rfl) : SE X B W (.Compare a [op] [b] pos) (op2F o f g) :=
  PE.imp (pe_cmpR ho ha hb hm) fun σ H Q p => two_runT hr p
theorem se_bin {op : Operator} {r : R2} {o : D → D → Option D} (ho : OpR X (binaryOp op) r) (hr : Op2 B.K r o) (ha : SE X B W a f) (hb : SE X B W b g) : SE X B W (.BinOp a op b pos) (op2F o f g) :=
  PE.imp (pe_op ho ha hb) fun σ H Q p => two_run hr p
theorem se_un {op : UnaryOp} {r : V → Hp → VK → Prop} {o : D → Option D} (ho : UnR X (unaryOp op) r) (hr : Op1 B.K r o) (ha : SE X B W a f) : SE X B W (.UnaryOp op a pos) (op1F o f) :=
  PE.imp (pe_un ho ha) fun σ H Q p => one_run hr p
theorem se_cmp {op : CmpOp} {r : R2} {o : D → D → Option D} (ho : OpR X (compareOp op) r) (hr : Op2 B.K r o) (ha : SE X B W a f) (hb : SE X B W b g) (hm : behindInMarks op b = false := by rfl) : SE X B W (.Compare a [op] [b] pos) (op2F o f g) :=
  PE.imp (pe_cmpR ho ha hb hm) fun σ H Q p => two_run hr p

/-! ### arguments, displays, calls of built-ins -/
def nilF : F (List D) := fun s => .ok [] s
def consF (f : F D) (g : F (List D)) : F (List D) := fun s => (f s).bind fun x s1 => (g s1).bind fun xs s2 => .ok (x :: xs) s2
variable {e : Expr} {es : List Expr} {k : F (List D)}
theorem sa_nil : SA X B W [] nilF := PA.imp pa_nil fun σ H Q ⟨M, s, r, p⟩ => p.out r .nil
theorem sa_cons (ha : SE X B W e f) (hr : SA X B W es k) (hs : starEach (e :: es) X.env = (false, eval e X.env) :: starEach es X.env := by rfl) : SA X B W (e :: es) (consF f k) := by
  refine PA.imp (pa_cons ha hr hs) fun σ H Q ⟨M, s, r, p⟩ => ?_
  exact ⟨M, s, r, Post.bind p fun x s1 M1 H1 v r1 q1 ev1 p1 => ⟨M1, s1, r1, Post.bind p1 fun xs s2 M2 H2 vs r2 q2 ev2 p2 => p2.out r2 (.cons (q1.move r1.mo ev2) q2)⟩⟩
def opnF (o : List D → Option D) (k : F (List D)) : F D := fun s => (k s).bind fun xs s1 => toR (o xs) s1
theorem n_run {r : List V → Hp → VK → Prop} {o : List D → Option D} (hr : OpN B.K r o) {σ : L2.St} {H : Hp} {Q : VK} (p : tP B W (rhoD B) (opnF o k) σ H Q) : tCB r (tP B W (rhoL B) k) σ H Q := by
  obtain ⟨M, s, r, p⟩ := p
  refine ⟨M, s, r, Post.bind p fun xs s1 M1 H1 vs r1 q1 ev1 p1 => ?_⟩
  unfold toR at p1
  split at p1
  · rename_i d e
    exact hr xs d e M1 H1 vs Q r1.mo q1 fun w H' sm q => p1.grow r1 sm q
  · exact p1.elim
theorem se_callB {x : Str} {id : String} {p pos : Pos} {r : List V → Hp → VK → Prop} {o : List D → Option D} (hc : CallR X (.builtin id) r) (hr : OpN B.K r o) (hg : Gl X x) (hm : X.mg x = none) (hv : bootBuiltins x = some (.builtin id)) (ha : SA X B W (e :: es) k) (hn : x ≠ "__name__" := by decide) (hdb : (x == ("__debug__" : Str)) = false := by decide)
    (he : starEach (e :: es) X.env = (false, eval e X.env) :: starEach es X.env := by rfl) (hpl : (backTo pos (starEach es X.env)).any (·.1) = false := by rfl) : SE X B W (.Call (.Name x p) (e :: es) [] pos) (opnF o k) :=
  PE.imp (pe_callB hc hg hm hv ha hn hdb he hpl) fun σ H Q p => n_run hr p
theorem se_callTy {x : Str} {T : String} {p pos : Pos} {r : List V → Hp → VK → Prop} {o : List D → Option D} (hc : CallR X (.type T) r) (hr : OpN B.K r o) (hg : Gl X x) (hm : X.mg x = none) (hv : bootBuiltins x = some (.type T)) (ha : SA X B W (e :: es) k) (hn : x ≠ "__name__" := by decide) (hdb : (x == ("__debug__" : Str)) = false := by decide)
    (he : starEach (e :: es) X.env = (false, eval e X.env) :: starEach es X.env := by rfl) (hpl : (backTo pos (starEach es X.env)).any (·.1) = false := by rfl) : SE X B W (.Call (.Name x p) (e :: es) [] pos) (opnF o k) :=
  PE.imp (pe_callTy hc hg hm hv ha hn hdb he hpl) fun σ H Q p => n_run hr p
def tupF (k : F (List D)) : F D := fun s => (k s).bind fun xs s1 => if xs.length ≤ sizeLine then .ok (.tup xs) s1 else .no
def lstF (k : F (List D)) : F D := fun s => (k s).bind fun xs s1 => if xs.length ≤ sizeLine then .ok (.lst xs) s1 else .no
theorem same_upd {H : Hp} {p : Addr} {o : HO} (h : H p = none) : Same H (upd H p o) := fun b x e => by
  rw [upd_ne (ne_of_none e h)]
  exact e
theorem new_tup {K : PySem.W.Frag} {M : MS} {H : Hp} {p : Addr} {vs : List V} {xs : List D} (m : MOk M H) (h : H p = none) (q : RpL K M H vs xs) : Rp K M (upd H p (.tup vs)) (.ref p) (.tup xs) := .tup upd_same (q.move m (.same (same_upd h)))
theorem new_lst {K : PySem.W.Frag} {M : MS} {H : Hp} {p : Addr} {vs : List V} {xs : List D} (m : MOk M H) (h : H p = none) (q : RpL K M H vs xs) : Rp K M (upd H p (.lst vs)) (.ref p) (.lst xs) := .lst upd_same (m.there h) (q.move m (.same (same_upd h)))
theorem se_tup {x1} (h : SA X B W es k) : SE X B W (.Tuple es x1 pos) (tupF k) := by
  refine PE.imp (pe_tup h) fun σ H Q ⟨M, s, r, p⟩ => ⟨M, s, r, Post.bind p fun xs s1 M1 H1 vs r1 q1 ev1 p1 => ?_⟩
  split at p1
  · rename_i hz
    exact ⟨by rw [q1.length]; exact hz, fun a na => p1.grow r1 (same_upd na) (new_tup r1.mo na q1)⟩
  · exact p1.elim
theorem se_lst (h : SA X B W es k) : SE X B W (.List es pos) (lstF k) := by
  refine PE.imp (pe_lst h) fun σ H Q ⟨M, s, r, p⟩ => ⟨M, s, r, Post.bind p fun xs s1 M1 H1 vs r1 q1 ev1 p1 => ?_⟩
  split at p1
  · rename_i hz
    exact ⟨by rw [q1.length]; exact hz, fun a na => p1.grow r1 (same_upd na) (new_lst r1.mo na q1)⟩
  · exact p1.elim
/-! ### own lists -/
/-- an owned list, in no slot -/
def Owned (B : Bs) (σ : L2.St) (s : List Sl) (M : MS) (H : Hp) (p : Addr) (ds : List D) : Prop :=
  ∃ xs, H p = some (.lst xs) ∧ M p ∧ Fr0 B.H0 p ∧ RpL B.K M H xs ds ∧ B.L p = none ∧ ∀ (j : Nat) (es : MO), s[j]? = some (.ow es) → σ[j]? ≠ some (some (.ref p))
def PostN (B : Bs) (W : WX) (M : MS) (H : Hp) (σ : L2.St) (r : R (List D)) (Q : VK) : Prop :=
  match r with
  | .ok ds s' => ∀ p H' M', SR B M' σ H' s' → Owned B σ s' M' H' p ds → Ev M H M' H' → Q (.ref p) H'
  | .er x s' => ∀ cls od H' M', SR B M' σ H' s' → XR B.K M' H' cls od x → Ev M H M' H' → W cls od σ H'
  | .no => False
def tN (B : Bs) (W : WX) (f : F (List D)) : TE := fun σ H Q => ∃ M s, SR B M σ H s ∧ PostN B W M H σ (f s) Q
def SN (X : Cx) (B : Bs) (W : WX) (e : Expr) (f : F (List D)) : Prop := PE X e (tN B W f)
theorem SR.noOw {M : MS} {σ : L2.St} {H : Hp} {s : List Sl} {p : Addr} (r : SR B M σ H s) (e : H p = none) : ∀ (j : Nat) (es : MO), s[j]? = some (.ow es) → σ[j]? ≠ some (some (.ref p)) := fun j es h z => by
  obtain ⟨a, xs, e1, q, _⟩ := r.ow j es h
  rw [z] at e1
  cases e1
  rw [e] at q
  cases q
theorem SR.noOwF {M : MS} {σ : L2.St} {H : Hp} {s : List Sl} {p : Addr} (r : SR B M σ H s) (e : Fr0 H p) : ∀ (j : Nat) (es : MO), s[j]? = some (.ow es) → σ[j]? ≠ some (some (.ref p)) := fun j es h z => by
  obtain ⟨a, xs, e1, q, _, _, l⟩ := r.ow j es h
  rw [z] at e1
  cases e1
  exact e.no q l.noTb
theorem SR.noLk {M : MS} {σ : L2.St} {H : Hp} {s : List Sl} {p : Addr} (r : SR B M σ H s) (e : Fr0 H p) : B.L p = none := by
  cases h : B.L p with
  | none => rfl
  | some o => exact (e.no (r.lk p o h).2.1 (r.mo.noTb (r.lk p o h).1 (r.lk p o h).2.1)).elim
/-- a list just laid is owned -/
theorem SR.newOwned {M : MS} {σ : L2.St} {H : Hp} {s : List Sl} {p : Addr} {xs : List V} {ds : List D} (r : SR B M σ H s) (e : H p = none) (q : RpL B.K M H xs ds) : SR B (With M p) σ (upd H p (.lst xs)) s ∧ Owned B σ s (With M p) (upd H p (.lst xs)) p ds := by
  have r' := r.laid (xs := xs) e
  have hL : B.L p = none := by
    cases h : B.L p with
    | none => rfl
    | some o =>
      have := (r.lk p o h).2.1
      rw [e] at this
      cases this
  refine ⟨r', xs, upd_same, .inr rfl, ?_, RpL.grow1 e q, hL, r.noOw e⟩
  rcases r'.dn p (.inr rfl) with z | z
  · exact absurd (r.up p z) (r.mo.there e)
  · exact z
theorem PostN.laid {M : MS} {σ : L2.St} {H : Hp} {s : List Sl} {p : Addr} {xs : List V} {ds : List D} {Q : VK} (h : PostN B W M H σ (.ok ds s) Q) (r : SR B M σ H s) (e : H p = none) (q : RpL B.K M H xs ds) : Q (.ref p) (upd H p (.lst xs)) :=
  let ⟨a, b⟩ := r.newOwned e q
  h p _ _ a b ⟨fun c z => z.elim .inl fun z => .inr (z ▸ fr0_none e), .same (same_upd e)⟩
theorem PostN.later {M M' : MS} {σ : L2.St} {H H' : Hp} {r : R (List D)} {Q : VK} (h : PostN B W M H σ r Q) (ev : Ev M H M' H') : PostN B W M' H' σ r Q := by
  cases r with
  | ok d s' => exact fun v H2 M2 a b c => h v H2 M2 a b (ev.trans c)
  | er x s' => exact fun cls od H2 M2 a b c => h cls od H2 M2 a b (ev.trans c)
  | no => exact h
theorem PostN.bind {M : MS} {σ : L2.St} {H : Hp} {rho : RelT β α} {r : R α} {g : α → F (List D)} {Q : VK} {Q1 : β → Hp → Prop} (h : PostN B W M H σ (r.bind g) Q)
    (k : ∀ d s1 M1 H1 x, SR B M1 σ H1 s1 → rho M1 H1 x d → Ev M H M1 H1 → PostN B W M1 H1 σ (g d s1) Q → Q1 x H1) : Post B W rho M H σ r Q1 := by
  cases r with
  | ok d s' => exact fun v H2 M2 a b c => k d s' M2 H2 v a b c (PostN.later h c)
  | er x s' => exact h
  | no => exact h
def lstN (k : F (List D)) : F (List D) := fun s => (k s).bind fun xs s1 => if xs.length ≤ sizeLine then .ok xs s1 else .no
theorem sn_lst (h : SA X B W es k) : SN X B W (.List es pos) (lstN k) := by
  refine PE.imp (pe_lst h) fun σ H Q ⟨M, s, r, p⟩ => ⟨M, s, r, PostN.bind p fun xs s1 M1 H1 vs r1 q1 ev1 p1 => ?_⟩
  split at p1
  · rename_i hz
    exact ⟨by rw [q1.length]; exact hz, fun a na => p1.laid r1 na q1⟩
  · exact p1.elim
/-- a call whose value is a new list -/
def OpW (K : PySem.W.Frag) (r : List V → Hp → VK → Prop) (o : List D → Option (List D)) : Prop := ∀ (xs ds : List D), o xs = some ds → ∀ (M : MS) (H : Hp) (vs : List V) (Q : VK), MOk M H → RpL K M H vs xs → (∀ p ws H', Same H H' → H' p = none → RpL K M H' ws ds → Q (.ref p) (upd H' p (.lst ws))) → r vs H Q
theorem OpW.toN {K : PySem.W.Frag} {r : List V → Hp → VK → Prop} {o : List D → Option (List D)} (h : OpW K r o) : OpN K r fun xs => (o xs).map .lst := fun xs d e M H vs Q m q k => by
  have e : (o xs).map D.lst = some d := e
  cases h1 : o xs with
  | none => rw [h1] at e; cases e
  | some ds =>
    rw [h1] at e
    cases e
    exact h xs ds h1 M H vs Q m q fun p ws H' sm hp hw => k _ _ (fun b o z => (same_upd hp) b o (sm b o z)) (new_lst (m.same sm) hp hw)
def toRL (o : Option (List D)) (s : List Sl) : R (List D) := match o with
  | some d => .ok d s
  | none => .no
def opnN (o : List D → Option (List D)) (k : F (List D)) : F (List D) := fun s => (k s).bind fun xs s1 => toRL (o xs) s1
theorem nN_run {r : List V → Hp → VK → Prop} {o : List D → Option (List D)} (hr : OpW B.K r o) {σ : L2.St} {H : Hp} {Q : VK} (p : tN B W (opnN o k) σ H Q) : tCB r (tP B W (rhoL B) k) σ H Q := by
  obtain ⟨M, s, r, p⟩ := p
  refine ⟨M, s, r, PostN.bind p fun xs s1 M1 H1 vs r1 q1 ev1 p1 => ?_⟩
  unfold toRL at p1
  split at p1
  · rename_i d e
    exact hr xs d e M1 H1 vs Q r1.mo q1 fun p ws H' sm hp hw => (PostN.later p1 (.same sm)).laid (r1.grow sm) hp hw
  · exact p1.elim
theorem sn_callB {x : Str} {id : String} {p pos : Pos} {r : List V → Hp → VK → Prop} {o : List D → Option (List D)} (hc : CallR X (.builtin id) r) (hr : OpW B.K r o) (hg : Gl X x) (hm : X.mg x = none) (hv : bootBuiltins x = some (.builtin id)) (ha : SA X B W (e :: es) k) (hn : x ≠ "__name__" := by decide) (hdb : (x == ("__debug__" : Str)) = false := by decide)
    (he : starEach (e :: es) X.env = (false, eval e X.env) :: starEach es X.env := by rfl) (hpl : (backTo pos (starEach es X.env)).any (·.1) = false := by rfl) : SN X B W (.Call (.Name x p) (e :: es) [] pos) (opnN o k) :=
  PE.imp (pe_callB hc hg hm hv ha hn hdb he hpl) fun σ H Q p => nN_run hr p
theorem sn_callTy {x : Str} {T : String} {p pos : Pos} {r : List V → Hp → VK → Prop} {o : List D → Option (List D)} (hc : CallR X (.type T) r) (hr : OpW B.K r o) (hg : Gl X x) (hm : X.mg x = none) (hv : bootBuiltins x = some (.type T)) (ha : SA X B W (e :: es) k) (hn : x ≠ "__name__" := by decide) (hdb : (x == ("__debug__" : Str)) = false := by decide)
    (he : starEach (e :: es) X.env = (false, eval e X.env) :: starEach es X.env := by rfl) (hpl : (backTo pos (starEach es X.env)).any (·.1) = false := by rfl) : SN X B W (.Call (.Name x p) (e :: es) [] pos) (opnN o k) :=
  PE.imp (pe_callTy hc hg hm hv ha hn hdb he hpl) fun σ H Q p => nN_run hr p

/-! ### tests -/
def tstF (f : F D) : F Bool := fun s => (f s).bind fun x s1 => match x with
  | .bl b => .ok b s1
  | _ => .no
theorem st_val (h : SE X B W e f) (he : ∀ whole, isTrue e X.env whole = (do let v ← whole; standAt e.pos; holding [v] (truthy v)) := by intro _; rfl) : ST X B W e (tstF f) := by
  refine PT.imp (pt_val h he) fun σ H Q ⟨M, s, r, p⟩ => ⟨M, s, r, Post.bind p fun x s1 M1 H1 v r1 q1 ev1 p1 => ?_⟩
  split at p1
  · cases q1
    exact ⟨_, rfl, p1.out r1 rfl⟩
  · exact p1.elim
theorem st_cmp {op : CmpOp} {r : R2} {o : D → D → Option D} (ho : OpR X (compareOp op) r) (hr : Op2 B.K r o) (ha : SE X B W a f) (hb : SE X B W b g) (hm : behindInMarks op b = false := by rfl) : ST X B W (.Compare a [op] [b] pos) (tstF (op2F o f g)) := by
  refine PT.imp (pt_cmpR ho ha hb hm) fun σ H Q ⟨M, s, r, p⟩ => ?_
  have p' : tP B W (rhoD B) (op2F o f g) σ H fun x H1 => ∃ c, x = .bl c ∧ Q c H1 := ⟨M, s, r, Post.bind p fun x s1 M1 H1 v r1 q1 ev1 p1 => by
    split at p1
    · cases q1
      exact ⟨_, rfl, p1.out r1 rfl⟩
    · exact p1.elim⟩
  exact two_run hr p'
def notT (f : F Bool) : F Bool := fun s => (f s).bind fun c s1 => .ok (!c) s1
def andT (f g : F Bool) : F Bool := fun s => (f s).bind fun c s1 => if c = true then g s1 else .ok false s1
def orT (f g : F Bool) : F Bool := fun s => (f s).bind fun c s1 => if c = true then .ok true s1 else g s1
variable {u v : F Bool} {rest : List Expr}
def SW (X : Cx) (B : Bs) (W : WX) (e : Expr) (f : F Bool) : Prop := PW X e (tP B W rhoB f)
theorem st_cmpT {op : CmpOp} {r : R2} {o : D → D → Option D} (ho : OpR X (compareOp op) r) (hr : Op2T B.K r o) (ha : SE X B W a f) (hb : SE X B W b g) (hm : behindInMarks op b = false := by rfl) : ST X B W (.Compare a [op] [b] pos) (tstF (op2F o f g)) := by
  refine PT.imp (pt_cmpR ho ha hb hm) fun σ H Q ⟨M, s, r, p⟩ => ?_
  have p' : tP B W (rhoD B) (op2F o f g) σ H fun x H1 => ∃ c, x = .bl c ∧ Q c H1 := ⟨M, s, r, Post.bind p fun x s1 M1 H1 v r1 q1 ev1 p1 => by
    split at p1
    · cases q1
      exact ⟨_, rfl, p1.out r1 rfl⟩
    · exact p1.elim⟩
  exact two_runT hr p'
theorem PW.imp {e : Expr} {t u : TT} (h : PW X e t) (k : ∀ σ H Q, u σ H Q → t σ H Q) : PW X e u := ⟨fun wh pins s σ H Q I q => h.run wh pins s σ H Q I (k σ H Q q)⟩
theorem SW.st (h : SW X B W e u) : ST X B W e u := PW.pt h
theorem st_not (h : ST X B W a u) : ST X B W (.UnaryOp .Not a pos) (notT u) :=
  PT.imp (pt_not h) fun σ H Q ⟨M, s, r, p⟩ => ⟨M, s, r, Post.bind p fun c s1 M1 H1 b r1 q1 ev1 p1 => p1.out r1 (by rw [q1])⟩
theorem sw_and1 (h : ST X B W a u) : SW X B W (.BoolOp .And [a] pos) u := pw_and1 h
theorem sw_or1 (h : ST X B W a u) : SW X B W (.BoolOp .Or [a] pos) u := pw_or1 h
theorem sw_and (ha : ST X B W a u) (hb : SW X B W (.BoolOp .And (b :: rest) pos) v) : SW X B W (.BoolOp .And (a :: b :: rest) pos) (andT u v) := by
  refine PW.imp (pw_and ha hb) fun σ H Q ⟨M, s, r, p⟩ => ⟨M, s, r, Post.bind p fun c s1 M1 H1 b r1 q1 ev1 p1 => ?_⟩
  have q1 : b = c := q1
  subst q1
  cases b with
  | true => exact ⟨M1, s1, r1, p1⟩
  | false => exact p1.out r1 rfl
theorem sw_or (ha : ST X B W a u) (hb : SW X B W (.BoolOp .Or (b :: rest) pos) v) : SW X B W (.BoolOp .Or (a :: b :: rest) pos) (orT u v) := by
  refine PW.imp (pw_or ha hb) fun σ H Q ⟨M, s, r, p⟩ => ⟨M, s, r, Post.bind p fun c s1 M1 H1 b r1 q1 ev1 p1 => ?_⟩
  have q1 : b = c := q1
  subst q1
  cases b with
  | true => exact p1.out r1 rfl
  | false => exact ⟨M1, s1, r1, p1⟩
/-- .. as values -/
def notF (f : F D) : F D := fun s => (f s).bind fun x s1 => match x with
  | .bl b => .ok (.bl (!b)) s1
  | _ => .no
def andF (f g : F D) : F D := fun s => (f s).bind fun x s1 => match x with
  | .bl true => g s1
  | .bl false => .ok (.bl false) s1
  | _ => .no
def orF (f g : F D) : F D := fun s => (f s).bind fun x s1 => match x with
  | .bl false => g s1
  | .bl true => .ok (.bl true) s1
  | _ => .no
theorem se_one {op} (h : SE X B W a f) : SE X B W (.BoolOp op [a] pos) f := pe_one h
theorem se_not (ha : SE X B W a f) : SE X B W (.UnaryOp .Not a pos) (notF f) := by
  refine PE.imp (pe_not ha) fun σ H Q ⟨M, s, r, p⟩ => ⟨M, s, r, Post.bind p fun x s1 M1 H1 v r1 q1 ev1 p1 => ?_⟩
  split at p1
  · cases q1
    exact ⟨_, rfl, p1.out r1 (.bl _)⟩
  · exact p1.elim
theorem se_and (ha : SE X B W a f) (hb : SE X B W (.BoolOp .And (b :: rest) pos) g) : SE X B W (.BoolOp .And (a :: b :: rest) pos) (andF f g) := by
  refine PE.imp (pe_and ha hb) fun σ H Q ⟨M, s, r, p⟩ => ⟨M, s, r, Post.bind p fun x s1 M1 H1 v r1 q1 ev1 p1 => ?_⟩
  split at p1
  · cases q1
    exact ⟨true, rfl, M1, s1, r1, p1⟩
  · cases q1
    exact ⟨false, rfl, p1.out r1 (.bl _)⟩
  · exact p1.elim
theorem se_or (ha : SE X B W a f) (hb : SE X B W (.BoolOp .Or (b :: rest) pos) g) : SE X B W (.BoolOp .Or (a :: b :: rest) pos) (orF f g) := by
  refine PE.imp (pe_or ha hb) fun σ H Q ⟨M, s, r, p⟩ => ⟨M, s, r, Post.bind p fun x s1 M1 H1 v r1 q1 ev1 p1 => ?_⟩
  split at p1
  · cases q1
    exact ⟨false, rfl, M1, s1, r1, p1⟩
  · cases q1
    exact ⟨true, rfl, p1.out r1 (.bl _)⟩
  · exact p1.elim
def ifF (u : F Bool) (f g : F D) : F D := fun s => (u s).bind fun c s1 => if c = true then f s1 else g s1
theorem se_if (hc : ST X B W c u) (ha : SE X B W a f) (hb : SE X B W b g) : SE X B W (.IfExp c a b pos) (ifF u f g) := by
  refine PE.imp (pe_ifExp hc ha hb) fun σ H Q ⟨M, s, r, p⟩ => ⟨M, s, r, Post.bind p fun c s1 M1 H1 b r1 q1 ev1 p1 => ?_⟩
  have q1 : b = c := q1
  subst q1
  cases b with
  | true => exact ⟨M1, s1, r1, p1⟩
  | false => exact ⟨M1, s1, r1, p1⟩
/-- a chain of two comparisons -/
def chainF (o o' : D → D → Option D) (f g h : F D) : F D := fun s => (f s).bind fun x s1 => (g s1).bind fun y s2 => match o x y with
  | some (.bl true) => (h s2).bind fun z s3 => toR (o' y z) s3
  | some (.bl false) => .ok (.bl false) s2
  | _ => .no
theorem se_chain {op op' : CmpOp} {r r' : R2} {o o' : D → D → Option D} (ho : OpR X (compareOp op) r) (ho' : OpR X (compareOp op') r') (hr : Op2 B.K r o) (hr' : Op2 B.K r' o') (ha : SE X B W a f) (hb : SE X B W b g) (hc : SE X B W c h)
    (hm : lastMarks [op, op'] [b, c] = false := by with_unfolding_all rfl) : SE X B W (.Compare a [op, op'] [b, c] pos) (chainF o o' f g h) := by
  refine PE.imp (pe_chain ho ho' ha hb hc hm) fun σ H Q ⟨M, s, r0, p⟩ => ⟨M, s, r0, Post.bind p fun x s1 M1 H1 v r1 q1 ev1 p1 => ⟨M1, s1, r1, Post.bind p1 fun y s2 M2 H2 u r2 q2 ev2 p2 => ?_⟩⟩
  split at p2
  · rename_i e
    refine hr x y _ e M2 H2 v u _ r2.mo (q1.move r1.mo ev2) q2 fun w H' sm q => ?_
    cases q
    refine ⟨true, rfl, M2, s2, r2.grow sm, Post.bind (Post.later p2 (.same sm)) fun z s3 M3 H3 w3 r3 q3 ev3 p3 => ?_⟩
    unfold toR at p3
    split at p3
    · rename_i d e3
      exact hr' y z d e3 M3 H3 u w3 Q r3.mo ((q2.move r2.mo (.same sm)).move (r2.mo.same sm) ev3) q3 fun w H' sm q => p3.grow r3 sm q
    · exact p3.elim
  · rename_i e
    refine hr x y _ e M2 H2 v u _ r2.mo (q1.move r1.mo ev2) q2 fun w H' sm q => ?_
    cases q
    exact ⟨false, rfl, p2.grow r2 sm (.bl false)⟩
  · exact p2.elim
end
end Fx

set_option Elab.async false
set_option linter.all false
set_option maxRecDepth 100000
namespace Fx
variable [Tbl]
open PySem L2

/-! ### statements -/
inductive Out where
  | nx (s : List Sl) | rt (d : D) (s : List Sl) | rn (ds : List D) (s : List Sl) | bk (s : List Sl) | ct (s : List Sl) | er (x : XD) (s : List Sl) | no
abbrev G := List Sl → Out
def PostS (B : Bs) (W : WX) (M : MS) (H : Hp) (o : Out) (E : Ends) : Prop :=
  match o with
  | .nx s' => ∀ σ' H' M', SR B M' σ' H' s' → Ev M H M' H' → E.nx σ' H'
  | .rt d s' => ∀ v σ' H' M', SR B M' σ' H' s' → Rp B.K M' H' v d → Ev M H M' H' → E.rt v H'
  | .rn ds s' => ∀ p σ' H' M', SR B M' σ' H' s' → Owned B σ' s' M' H' p ds → Ev M H M' H' → E.rt (.ref p) H'
  | .bk s' => ∀ σ' H' M', SR B M' σ' H' s' → Ev M H M' H' → E.bk σ' H'
  | .ct s' => ∀ σ' H' M', SR B M' σ' H' s' → Ev M H M' H' → E.ct σ' H'
  | .er x s' => ∀ cls od σ' H' M', SR B M' σ' H' s' → XR B.K M' H' cls od x → Ev M H M' H' → W cls od σ' H'
  | .no => False
def tS (B : Bs) (W : WX) (g : G) : TS := fun E σ H => ∃ M s, SR B M σ H s ∧ PostS B W M H (g s) E
def SS (X : Cx) (B : Bs) (W : WX) (st : Stmt) (g : G) : Prop := PS X st (tS B W g)
def SSs (X : Cx) (B : Bs) (W : WX) (st : List Stmt) (g : G) : Prop := PSs X st (tS B W g)
variable {α β : Type}
def R.out (r : R α) (f : α → List Sl → Out) : Out := match r with
  | .ok a s => f a s
  | .er x s => .er x s
  | .no => .no
@[simp] theorem R.out_ok {a : α} {s : List Sl} {f : α → List Sl → Out} : (R.ok a s).out f = f a s := rfl
@[simp] theorem R.out_er {x : XD} {s : List Sl} {f : α → List Sl → Out} : (R.er x s).out f = .er x s := rfl
@[simp] theorem R.out_no {f : α → List Sl → Out} : (R.no).out f = .no := rfl
section
variable {B : Bs} {W : WX} {M M' : MS} {σ : L2.St} {H H' : Hp} {s : List Sl} {rho : RelT β α}
theorem PostS.later {o : Out} {E : Ends} (h : PostS B W M H o E) (ev : Ev M H M' H') : PostS B W M' H' o E := by
  cases o with
  | nx s' => exact fun a b c d e => h a b c d (ev.trans e)
  | rt d s' => exact fun v a b c d r e => h v a b c d r (ev.trans e)
  | rn d s' => exact fun v a b c d r e => h v a b c d r (ev.trans e)
  | bk s' => exact fun a b c d e => h a b c d (ev.trans e)
  | ct s' => exact fun a b c d e => h a b c d (ev.trans e)
  | er x s' => exact fun cls od σ' H2 M2 a b c => h cls od σ' H2 M2 a b (ev.trans c)
  | no => exact h
theorem PostS.bind {r : R α} {g : α → G} {E : Ends} {Q1 : β → Hp → Prop} (h : PostS B W M H (r.out g) E)
    (k : ∀ d s1 M1 H1 x, SR B M1 σ H1 s1 → rho M1 H1 x d → Ev M H M1 H1 → PostS B W M1 H1 (g d s1) E → Q1 x H1) : Post B W rho M H σ r Q1 := by
  cases r with
  | ok d s' => exact fun v H2 M2 a b c => k d s' M2 H2 v a b c (PostS.later h c)
  | er x s' => exact fun cls od H' M' a b => h cls od σ H' M' a b
  | no => exact h
theorem PostS.bindN {r : R (List D)} {g : List D → G} {E : Ends} {Q1 : VK} (h : PostS B W M H (r.out g) E)
    (k : ∀ ds s1 M1 H1 p, SR B M1 σ H1 s1 → Owned B σ s1 M1 H1 p ds → Ev M H M1 H1 → PostS B W M1 H1 (g ds s1) E → Q1 (.ref p) H1) : PostN B W M H σ r Q1 := by
  cases r with
  | ok d s' => exact fun v H2 M2 a b c => k d s' M2 H2 v a b c (PostS.later h c)
  | er x s' => exact fun cls od H' M' a b => h cls od σ H' M' a b
  | no => exact h
end
section
variable {X : Cx} {B : Bs} {W : WX} {st : Stmt} {rest : List Stmt} {g h : G} {e : Expr} {f : F D} {k : F (List D)} {pos : Pos}
def nextG : G := fun s => .nx s
def seqG (g h : G) : G := fun s => match g s with
  | .nx s1 => h s1
  | .rt d s1 => .rt d s1
  | .rn d s1 => .rn d s1
  | .bk s1 => .bk s1
  | .ct s1 => .ct s1
  | .er x s1 => .er x s1
  | .no => .no
theorem ss_nil : SSs X B W [] nextG := PSs.imp pss_nil fun E σ H ⟨M, s, r, p⟩ => p σ H M r .rfl
theorem ss_one (h1 : SS X B W st g) : SSs X B W [st] g := pss_one h1
theorem ss_cons (h1 : SS X B W st g) (h2 : SSs X B W rest h) : SSs X B W (st :: rest) (seqG g h) := by
  refine PSs.imp (pss_cons h1 h2) fun E σ H ⟨M, s, r, p⟩ => ⟨M, s, r, ?_⟩
  unfold seqG at p
  revert p
  cases g s with
  | nx s1 => exact fun p σ' H' M' a b => ⟨M', s1, a, PostS.later p b⟩
  | rt d s1 => exact fun p => p
  | rn d s1 => exact fun p => p
  | bk s1 => exact fun p => p
  | ct s1 => exact fun p => p
  | er x s1 => exact fun p => p
  | no => exact fun p => p
def noG : G := fun _ => .no
theorem ss_never : SS X B W st noG := PS.imp ps_never fun E σ H ⟨M, s, r, p⟩ => p
theorem sss_never : SSs X B W rest noG := PSs.imp pss_never fun E σ H ⟨M, s, r, p⟩ => p
theorem ss_pass : SS X B W (.Pass pos) nextG := PS.imp ps_pass fun E σ H ⟨M, s, r, p⟩ => p σ H M r .rfl
def breakG : G := fun s => .bk s
def contG : G := fun s => .ct s
theorem ss_break : SS X B W (.Break pos) breakG := PS.imp ps_break fun E σ H ⟨M, s, r, p⟩ => p σ H M r .rfl
theorem ss_continue : SS X B W (.Continue pos) contG := PS.imp ps_continue fun E σ H ⟨M, s, r, p⟩ => p σ H M r .rfl
def dropG (f : F D) : G := fun s => (f s).out fun _ s1 => .nx s1
theorem ss_expr (he : SE X B W e f) (hs : swapsWith e none pos.line X.env = pure false := by rfl) : SS X B W (.Expr e pos) (dropG f) :=
  PS.imp (ps_expr he hs) fun E σ H ⟨M, s, r, p⟩ => ⟨M, s, r, PostS.bind p fun d s1 M1 H1 v r1 q1 ev1 p1 => p1 σ H1 M1 r1 .rfl⟩
def retG (f : F D) : G := fun s => (f s).out fun d s1 => .rt d s1
theorem ss_ret (he : SE X B W e f) : SS X B W (.Return (some e) pos) (retG f) :=
  PS.imp (ps_ret he) fun E σ H ⟨M, s, r, p⟩ => ⟨M, s, r, PostS.bind p fun d s1 M1 H1 v r1 q1 ev1 p1 => p1 v σ H1 M1 r1 q1 .rfl⟩
def retNG (k : F (List D)) : G := fun s => (k s).out fun d s1 => .rn d s1
theorem ss_retN (he : SN X B W e k) : SS X B W (.Return (some e) pos) (retNG k) :=
  PS.imp (ps_ret he) fun E σ H ⟨M, s, r, p⟩ => ⟨M, s, r, PostS.bindN p fun d s1 M1 H1 v r1 q1 ev1 p1 => p1 v σ H1 M1 r1 q1 .rfl⟩
def retNonG : G := fun s => .rt .non s
theorem ss_retNone : SS X B W (.Return none pos) retNonG := PS.imp ps_retN fun E σ H ⟨M, s, r, p⟩ => p _ σ H M r .non .rfl
/-- return of a name: a list of one's own is handed on as such -/
def retV (i : Nat) : G := fun s => match s[i]? with
  | some (.va d) => .rt d s
  | some (.ow (.l ds)) => .rn ds (s.set i .un)
  | _ => .no
theorem SR.forget {B : Bs} {M : MS} {σ : L2.St} {H : Hp} {s : List Sl} {i : Nat} (r : SR B M σ H s) (hi : ∀ ds : MO, s[i]? ≠ some (.io ds)) : SR B M σ H (s.set i .un) where
  va := fun j d h1 => by
    rcases nth_set h1 with ⟨rfl, e1⟩ | ⟨n, h2⟩
    · cases e1
    · exact r.va j d h2
  ow := fun j d h1 => by
    rcases nth_set h1 with ⟨rfl, e1⟩ | ⟨n, h2⟩
    · cases e1
    · exact r.ow j d h2
  io := fun j d h1 => by
    rcases nth_set h1 with ⟨rfl, e1⟩ | ⟨n, h2⟩
    · cases e1
    · exact r.io j d h2
  pa := fun a ha => by
    obtain ⟨h1, ds, h2⟩ := r.pa a ha
    refine ⟨h1, ds, ?_⟩
    have ei : i ≠ 0 := fun z => hi ds (by rw [z]; exact h2)
    rw [List.getElem?_set_ne ei]
    exact h2
  ne := fun j k ds es a n h1 h2 h3 h4 => by
    rcases nth_set h1 with ⟨rfl, e1⟩ | ⟨_, h1⟩
    · cases e1
    · rcases nth_set h2 with ⟨rfl, e1⟩ | ⟨_, h2⟩
      · cases e1
      · exact r.ne j k ds es a n h1 h2 h3 h4
  mo := r.mo
  up := r.up
  dn := r.dn
  st := r.st
  bm := r.bm
  lk := fun b o e => by
    obtain ⟨h1, h2, h3⟩ := r.lk b o e
    refine ⟨h1, h2, fun z => ?_⟩
    rcases z.of_set2 with z | ⟨⟨ds, z | z⟩, _⟩
    · exact h3 z
    · cases z
    · cases z
  len := by rw [List.length_set]; exact r.len
  tb := r.tb
theorem ss_retV (i : Nat) {x : Str} {p' : Pos} (hN : X.N[i]? = some x := by rfl) (hv : Vis X.env.scope x := by first | exact Or.inl rfl | exact Or.inr (Or.inl rfl) | exact Or.inr (Or.inr rfl)) (hd : (x == ("__debug__" : Str)) = false := by decide)
    (hcd : (x == ("__classdict__" : Str)) = false := by decide) : SS X B W (.Return (some (.Name x p')) pos) (retV i) := by
  refine PS.imp (ps_ret (pe_var hN hv hd hcd)) fun E σ H ⟨M, s, r, p⟩ => ?_
  unfold retV at p
  split at p
  · rename_i d e
    obtain ⟨v, e1, q⟩ := r.va i d e
    exact ⟨v, e1, p v σ H M r q .rfl⟩
  · rename_i ds e
    obtain ⟨a, xs, e1, q, m, n, l⟩ := r.ow i _ e
    cases l with
    | l l =>
    have hL : B.L a = none := by
      cases h : B.L a with
      | none => rfl
      | some o => exact absurd ⟨i, _, .inl e, e1⟩ (r.lk a o h).2.2
    refine ⟨_, e1, p a σ H M (r.forget fun ds z => by rw [e] at z; cases z) ⟨_, q, m, n, l, hL, fun j es h z => ?_⟩ .rfl⟩
    rcases nth_set h with ⟨rfl, e1'⟩ | ⟨hj, h2⟩
    · cases e1'
    · exact r.ne i j _ es a hj e h2 e1 z
  · exact p.elim
def ifG (u : F Bool) (g h : G) : G := fun s => (u s).out fun b s1 => if b = true then g s1 else h s1
theorem ss_if {c : Expr} {a b : List Stmt} {u : F Bool} (hc : ST X B W c u) (ha : SSs X B W a g) (hb : SSs X B W b h) : SS X B W (.If c a b pos) (ifG u g h) := by
  refine PS.imp (ps_if hc ha hb) fun E σ H ⟨M, s, r, p⟩ => ⟨M, s, r, PostS.bind p fun d s1 M1 H1 v r1 q1 ev1 p1 => ?_⟩
  have q1 : v = d := q1
  subst q1
  cases v with
  | true => exact ⟨M1, s1, r1, p1⟩
  | false => exact ⟨M1, s1, r1, p1⟩

/-! ### targets -/
def okSl (s : List Sl) (i : Nat) : Bool := match s[i]? with
  | some (.io _) => false
  | some _ => true
  | none => false
theorem okSl.io {s : List Sl} {i : Nat} (h : okSl s i = true) : ∀ ds : MO, s[i]? ≠ some (.io ds) := fun ds z => by
  unfold okSl at h
  rw [z] at h
  cases h
theorem okSl.lt {s : List Sl} {i : Nat} (h : okSl s i = true) : i < s.length := by
  unfold okSl at h
  cases e : s[i]? with
  | none => rw [e] at h; cases h
  | some x => exact (List.getElem?_eq_some_iff.mp e).1
abbrev AS := D → List Sl → Option (List Sl)
def setA (i : Nat) : AS := fun d s => if okSl s i = true then some (s.set i (.va d)) else none
/-- all slots but ks are as they were -/
def Out1 (ks : List Nat) (σ σ' : L2.St) : Prop := σ'.length = σ.length ∧ ∀ i, i ∉ ks → σ'[i]? = σ[i]?
def tA (B : Bs) (ks : List Nat) (a : AS) : TG := fun v σ H Q => ∃ M s d, SR B M σ H s ∧ Rp B.K M H v d ∧ match a d s with
  | some s' => ∀ σ' H' M', SR B M' σ' H' s' → Ev M H M' H' → Out1 ks σ σ' → Q σ' H'
  | none => False
def SG (X : Cx) (B : Bs) (ks : List Nat) (tg : Expr) (a : AS) : Prop := PG X tg (tA B ks a)
theorem sg_name {i : Nat} {x : Str} (hN : X.N.Nodup) (hi : X.N[i]? = some x) (hx : Loc X.env.scope x) (hf : X.fn x = true ∨ X.env.scope.names.lookup x = some .local := by first | exact .inl rfl | exact .inr rfl | assumption) : SG X B [i] (.Name x pos) (setA i) := by
  refine PG.imp (pg_name hN hi hx hf) fun v σ H Q ⟨M, s, d, r, q, p⟩ => ?_
  unfold setA at p
  split at p
  · rename_i s' e
    split at e
    · rename_i h
      cases e
      exact p _ H M (r.put q (okSl.io h) (okSl.lt h)) .rfl ⟨List.length_set .., fun j hj => List.getElem?_set_ne fun z => hj (by simp [z])⟩
    · cases e
  · exact p.elim
abbrev ASs := List D → List Sl → Option (List Sl)
def tAs (B : Bs) (ks : List Nat) (a : ASs) : TGs := fun vs σ H Q => ∃ M s ds, SR B M σ H s ∧ RpL B.K M H vs ds ∧ match a ds s with
  | some s' => ∀ σ' H' M', SR B M' σ' H' s' → Ev M H M' H' → Out1 ks σ σ' → Q σ' H'
  | none => False
def SGs (X : Cx) (B : Bs) (ks : List Nat) (tg : List Expr) (a : ASs) : Prop := PGs X tg (tAs B ks a)
theorem PGs.imp {es : List Expr} {t u : TGs} (h : PGs X es t) (k : ∀ v σ H Q, u v σ H Q → t v σ H Q) : PGs X es u := ⟨fun pins s σ H vs us Q I r q => h.run pins s σ H vs us Q I r (k vs σ H Q q)⟩
def nilA : ASs := fun ds s => match ds with
  | [] => some s
  | _ => none
def consA (a : AS) (b : ASs) : ASs := fun ds s => match ds with
  | d :: ds => (a d s).bind fun s1 => b ds s1
  | [] => none
theorem sgs_nil : SGs X B [] [] nilA := PGs.imp pgs_nil fun vs σ H Q ⟨M, s, ds, r, q, p⟩ => by
  cases q with
  | nil => exact ⟨rfl, p σ H M r .rfl ⟨rfl, fun _ _ => rfl⟩⟩
  | cons _ _ => exact p.elim
theorem sgs_cons {es : List Expr} {ks ls : List Nat} {a : AS} {b : ASs} (h1 : SG X B ks e a) (h2 : SGs X B ls es b) (hs : (assignEach (e :: es) X.env).map (·.2) = assign e X.env :: (assignEach es X.env).map (·.2) := by rfl) : SGs X B (ks ++ ls) (e :: es) (consA a b) :=
  PGs.imp (pgs_cons h1 h2 hs) fun vs σ H Q ⟨M, s, ds, r, q, p⟩ => by
    cases q with
    | nil => exact p.elim
    | @cons v vs d ds q qs =>
      refine ⟨v, vs, rfl, M, s, d, r, q, ?_⟩
      unfold consA at p
      dsimp only at p
      cases h : a d s with
      | none => rw [h] at p; exact p
      | some s1 =>
        rw [h] at p
        intro σ' H' M' r' ev o1
        refine ⟨M', s1, ds, r', qs.move r.mo ev, ?_⟩
        dsimp only [Option.bind] at p
        revert p
        cases b ds s1 with
        | none => exact fun p => p
        | some s2 => exact fun p σ2 H2 M2 r2 ev2 o2 => p σ2 H2 M2 r2 (ev.trans ev2) ⟨o2.1.trans o1.1, fun i hi => by
          rw [List.mem_append, not_or] at hi
          exact (o2.2 i hi.2).trans (o1.2 i hi.1)⟩
def seqA (n : Nat) (b : ASs) : AS := fun d s => match d with
  | .tup ds => if ds.length = n then b ds s else none
  | .lst ds => if ds.length = n then b ds s else none
  | _ => none
theorem PG.or {tg : Expr} {t u : TG} (h1 : PG X tg t) (h2 : PG X tg u) : PG X tg (fun v σ H Q => t v σ H Q ∨ u v σ H Q) := ⟨fun pins s σ H v w Q I r q => q.elim (h1.run pins s σ H v w Q I r) (h2.run pins s σ H v w Q I r)⟩
theorem Rp.seq {K : PySem.W.Frag} {M : MS} {H : Hp} {v : V} {ds : List D} (h : Rp K M H v (.lst ds)) : ∃ a xs, v = .ref a ∧ SqL K H a xs ∧ RpL K M H xs ds := by
  cases h with
  | lst h n l => exact ⟨_, _, rfl, .of h, l⟩
theorem Rp.seqT {K : PySem.W.Frag} {M : MS} {H : Hp} {v : V} {ds : List D} (h : Rp K M H v (.tup ds)) : ∃ a xs, v = .ref a ∧ SqT K H a xs ∧ RpL K M H xs ds := by
  cases h with
  | tup h l => exact ⟨_, _, rfl, .of h, l⟩
  | tupK h l => exact ⟨_, _, rfl, h.sq H, l⟩
theorem sg_tup {es : List Expr} {ks : List Nat} {kk : Nat} {b : ASs} {n : Nat} (hc : X.calm = true) (hK : X.K = B.K) (h : SGs X B ks es b) (hn : (assignEach es X.env).length = n := by rfl) (hst : (assignEach es X.env).findIdx? (·.1) = none := by rfl) : SG X B ks (.Tuple es kk pos) (seqA n b) := by
  refine PG.imp (PG.or (pg_tup hc h hn hst) (pg_lst hc h hn hst)) fun v σ H Q ⟨M, s, d, r, q, p⟩ => ?_
  unfold seqA at p
  split at p
  · rename_i s' e
    split at e
    · split at e
      · rename_i ds hl
        obtain ⟨a, xs, rfl, hq, hx⟩ := q.seqT
        exact .inl ⟨a, xs, rfl, hK ▸ hq, hx.length.trans hl, M, s, ds, r, hx, by rw [e]; exact p⟩
      · cases e
    · split at e
      · rename_i ds hl
        obtain ⟨a, xs, rfl, hq, hx⟩ := q.seq
        exact .inr ⟨a, xs, rfl, hK ▸ hq, hx.length.trans hl, M, s, ds, r, hx, by rw [e]; exact p⟩
      · cases e
    · cases e
  · exact p.elim
def asgG (f : F D) (a : AS) : G := fun s => (f s).out fun d s1 => match a d s1 with
  | some s2 => .nx s2
  | none => .no
theorem ss_asg {tg : Expr} {ks : List Nat} {a : AS} (he : SE X B W e f) (hg : SG X B ks tg a) (hs : swapsWithSole [tg] e pos.line X.env = pure false := by rfl) (hw : swappedStores [tg] e X.env = pure none := by rfl)
    (h1 : (assignEach [tg] X.env).map (·.2) = [assign tg X.env] := by rfl) : SS X B W (.Assign [tg] e pos) (asgG f a) :=
  PS.imp (ps_asg he hg hs hw h1) fun E σ H ⟨M, s, r, p⟩ => ⟨M, s, r, PostS.bind p fun d s1 M1 H1 v r1 q1 ev1 p1 => ⟨M1, s1, d, r1, q1, by
    revert p1
    cases a d s1 with
    | none => exact fun p => p
    | some s2 => exact fun p σ' H' M' a b _ => p σ' H' M' a b⟩⟩
theorem ss_set {i : Nat} {x : Str} {pos' : Pos} (hN : X.N.Nodup) (hi : X.N[i]? = some x) (hx : Loc X.env.scope x) (he : SE X B W e f) (hs : swapsWith e (some (.Name x pos')) pos.line X.env = pure false := by rfl) (hf : X.fn x = true ∨ X.env.scope.names.lookup x = some .local := by first | exact .inl rfl | exact .inr rfl | assumption) :
    SS X B W (.Assign [.Name x pos'] e pos) (asgG f (setA i)) :=
  PS.imp (L2.ps_set hN hi hx he hs hf) fun E σ H ⟨M, s, r, p⟩ => ⟨M, s, r, PostS.bind p fun d s1 M1 H1 v r1 q1 ev1 p1 => by
    unfold setA at p1
    split at p1
    · rename_i s2 e
      split at e
      · rename_i h
        cases e
        exact p1 _ H1 M1 (r1.put q1 (okSl.io h) (okSl.lt h)) .rfl
      · cases e
    · exact p1.elim⟩
/-- name = a new list: the name's own -/
def setNG (i : Nat) (k : F (List D)) : G := fun s => (k s).out fun ds s1 => if okSl s1 i = true then .nx (s1.set i (.ow (.l ds))) else .no
theorem setN_run {i : Nat} {E : Ends} {σ : L2.St} {M1 : MS} {H1 : Hp} {s1 : List Sl} {ds : List D} {p : Addr} (r1 : SR B M1 σ H1 s1) (q1 : Owned B σ s1 M1 H1 p ds) (p1 : PostS B W M1 H1 (if okSl s1 i = true then .nx (s1.set i (.ow (.l ds))) else .no) E) : E.nx (σ.set i (some (.ref p))) H1 := by
  split at p1
  · rename_i h
    obtain ⟨xs, h1, h2, h3, h4, hL, h5⟩ := q1
    exact p1 _ H1 M1 (r1.putOw h1 h2 h3 (.l h4) h5 hL (okSl.io h) (okSl.lt h)) .rfl
  · exact p1.elim
theorem ss_setN {i : Nat} {x : Str} {pos' : Pos} (hN : X.N.Nodup) (hi : X.N[i]? = some x) (hx : Loc X.env.scope x) (he : SN X B W e k) (hs : swapsWith e (some (.Name x pos')) pos.line X.env = pure false := by rfl) (hf : X.fn x = true ∨ X.env.scope.names.lookup x = some .local := by first | exact .inl rfl | exact .inr rfl | assumption) :
    SS X B W (.Assign [.Name x pos'] e pos) (setNG i k) :=
  PS.imp (L2.ps_set hN hi hx he hs hf) fun E σ H ⟨M, s, r, p⟩ => ⟨M, s, r, PostS.bindN p fun d s1 M1 H1 v r1 q1 ev1 p1 => setN_run r1 q1 p1⟩
/-- name op= e -/
def augG (i : Nat) (o : D → D → Option D) (f : F D) : G := fun s => match s[i]? with
  | some (.va x) => (f s).out fun y s1 => match o x y with
    | some z => if okSl s1 i = true then .nx (s1.set i (.va z)) else .no
    | none => .no
  | _ => .no
theorem ss_aug {i : Nat} {x : Str} {op : Operator} {r : R2} {o : D → D → Option D} {pos' : Pos} (hN : X.N.Nodup) (hi : X.N[i]? = some x) (hx : Loc X.env.scope x) (ho : OpR X (inplaceOp op) r) (hr : Op2 B.K r o) (he : SE X B W e f) (hf : X.fn x = true ∨ X.env.scope.names.lookup x = some .local := by first | exact .inl rfl | exact .inr rfl | assumption) :
    SS X B W (.AugAssign (.Name x pos') op e pos) (augG i o f) :=
  PS.imp (L2.ps_aug hN hi hx he (ti := r) ho hf) fun E σ H ⟨M, s, r0, p⟩ => by
    unfold augG at p
    split at p
    · rename_i d e1
      obtain ⟨v, h1, q⟩ := r0.va i d e1
      refine ⟨v, h1, M, s, r0, PostS.bind p fun y s1 M1 H1 u r1 q1 ev1 p1 => ?_⟩
      split at p1
      · rename_i z e2
        refine hr d y z e2 M1 H1 v u _ r1.mo (q.move r0.mo ev1) q1 fun w H' sm qz => ?_
        split at p1
        · rename_i h
          exact p1 _ H' M1 ((r1.grow sm).put qz (okSl.io h) (okSl.lt h)) (.same sm)
        · exact p1.elim
      · exact p1.elim
    · exact p.elim
/-! ### lists of one's own: read, changed -/
def ownAt (s : List Sl) (i : Nat) : Option (List D) := match s[i]? with
  | some (.va (.lst ds)) => some ds
  | some (.ow (.l ds)) => some ds
  | some (.io (.l ds)) => some ds
  | _ => none
theorem ownAt.run {B : Bs} {M : MS} {σ : L2.St} {H : Hp} {s : List Sl} {i : Nat} {ds : List D} (r : SR B M σ H s) (h : ownAt s i = some ds) : ∃ a xs, σ[i]? = some (some (.ref a)) ∧ SqL B.K H a xs ∧ RpL B.K M H xs ds := by
  unfold ownAt at h
  split at h
  · rename_i es e
    cases h
    obtain ⟨v, e1, q⟩ := r.va i _ e
    obtain ⟨a, xs, rfl, hq, hx⟩ := q.seq
    exact ⟨a, xs, e1, hq, hx⟩
  · rename_i es e
    cases h
    obtain ⟨a, xs, e1, q, m, n, l⟩ := r.ow i _ e
    cases l with
    | l l => exact ⟨a, _, e1, .of q, l⟩
  · rename_i es e
    cases h
    obtain ⟨z, a, xs, p, e1, q, m, l⟩ := r.io i _ e
    cases l with
    | l l => exact ⟨a, _, z ▸ e1, .of q, l⟩
  · cases h
/-- store a changed object at a slot of one's own -/
def ownPutM (s : List Sl) (i : Nat) (m : MO) : Option (MO × List Sl) := match s[i]? with
  | some (.ow k) => some (k, s.set i (.ow m))
  | some (.io k) => some (k, s.set i (.io m))
  | _ => none
theorem ownPutM.run {B : Bs} {M : MS} {σ : L2.St} {H : Hp} {s s' : List Sl} {i : Nat} {m k : MO} (r : SR B M σ H s) (h : ownPutM s i m = some (k, s')) :
    ∃ a o, σ[i]? = some (some (.ref a)) ∧ H a = some o ∧ M a ∧ MR B.K M H o k ∧ ∀ H' o', Step (fun b => b = a) H H' → TbOk H' → H' a = some o' → MR B.K M H' o' m → SR B M σ H' s' ∧ Ev M H M H' := by
  unfold ownPutM at h
  split at h
  · rename_i es e
    cases h
    obtain ⟨a, xs, e1, q, m, n, l⟩ := r.ow i _ e
    exact ⟨a, xs, e1, q, m, l, fun H' ys st tk ha hx => r.mutated (io := false) e e1 ha hx st tk⟩
  · rename_i es e
    cases h
    obtain ⟨z, a, xs, p, e1, q, m, l⟩ := r.io i _ e
    subst z
    exact ⟨a, xs, e1, q, m, l, fun H' ys st tk ha hx => r.mutated (io := true) e e1 ha hx st tk⟩
  · cases h
/-- store a changed list at a slot of one's own -/
def ownPut (s : List Sl) (i : Nat) (ds : List D) : Option (List Sl) := match s[i]? with
  | some (.ow (.l _)) => some (s.set i (.ow (.l ds)))
  | some (.io (.l _)) => some (s.set i (.io (.l ds)))
  | _ => none
theorem ownPut.run {B : Bs} {M : MS} {σ : L2.St} {H : Hp} {s s' : List Sl} {i : Nat} {ds : List D} (r : SR B M σ H s) (h : ownPut s i ds = some s') :
    ∃ a xs, ∃ es : List D, ownAt s i = some es ∧ σ[i]? = some (some (.ref a)) ∧ H a = some (.lst xs) ∧ M a ∧ RpL B.K M H xs es ∧ ∀ H' ys, Step (fun b => b = a) H H' → TbOk H' → H' a = some (.lst ys) → RpL B.K M H' ys ds → SR B M σ H' s' ∧ Ev M H M H' := by
  unfold ownPut at h
  split at h
  · rename_i es e
    cases h
    obtain ⟨a, xs, e1, q, m, n, l⟩ := r.ow i _ e
    cases l with
    | l l => exact ⟨a, _, es, by unfold ownAt; rw [e], e1, q, m, l, fun H' ys st tk ha hx => r.mutated (io := false) e e1 ha (.l hx) st tk⟩
  · rename_i es e
    cases h
    obtain ⟨z, a, xs, p, e1, q, m, l⟩ := r.io i _ e
    subst z
    cases l with
    | l l => exact ⟨a, _, es, by unfold ownAt; rw [e], e1, q, m, l, fun H' ys st tk ha hx => r.mutated (io := true) e e1 ha (.l hx) st tk⟩
  · cases h
theorem step_upd {H : Hp} {a : Addr} {o : HO} : Step (fun b => b = a) H (upd H a o) := fun b u e n _ => by
  rw [upd_ne n]
  exact e
theorem ownPut.upd {B : Bs} {M : MS} {σ : L2.St} {H : Hp} {s s' : List Sl} {i : Nat} {ds : List D} {a : Addr} {ys : List V} (r : SR B M σ H s) (h : ownPut s i ds = some s') (hs : σ[i]? = some (some (.ref a))) (hx : RpL B.K M H ys ds) : SR B M σ (upd H a (.lst ys)) s' ∧ Ev M H M (upd H a (.lst ys)) := by
  obtain ⟨a', xs', es, _, e1, q, m, l, k⟩ := ownPut.run r h
  rw [hs] at e1
  cases e1
  exact k _ ys step_upd (r.tb.setL q) upd_same (hx.move r.mo ⟨fun _ z => .inl z, fun b o e n _ => by rw [upd_ne fun z => n (by rw [z]; exact m)]; exact e⟩)
end
end Fx

set_option Elab.async false
set_option linter.all false
set_option maxRecDepth 100000
namespace Fx
variable [Tbl]
open PySem L2
section
variable {X : Cx} {B : Bs} {W : WX} {e : Expr} {es : List Expr} {f g : F D} {k kk : F (List D)} {pos : Pos}

/-! ### own[i], len(own), own.append(e), own[i] = e, own.pop(..) -/
def atD (ds : List D) (i : Int) : Option D := (ixN ds.length i).bind fun j => ds[j]?
theorem atD.run {K : PySem.W.Frag} {M : MS} {H : Hp} {xs : List V} {ds : List D} {i : Int} {d : D} (q : RpL K M H xs ds) (h : atD ds i = some d) : ∃ v, atI xs i = some v ∧ Rp K M H v d := by
  unfold atD at h
  unfold atI
  rw [q.length]
  cases e : ixN ds.length i with
  | none => rw [e] at h; cases h
  | some j =>
    rw [e] at h
    exact q.get h
def ixOwnF (i : Nat) (g : F D) : F D := fun s => match ownAt s i with
  | none => .no
  | some _ => (g s).bind fun y s1 => match y, ownAt s1 i with
    | .int j, some ds => toR (atD ds j) s1
    | _, _ => .no
theorem se_ixOwn (i : Nat) {x : Str} {p' : Pos} (hK : X.K = B.K) (hg : SE X B W e g) (hN : X.N[i]? = some x := by rfl) (hv : Vis X.env.scope x := by first | exact Or.inl rfl | exact Or.inr (Or.inl rfl) | exact Or.inr (Or.inr rfl))
    (hs : PlainIx e := by exact fun _ _ => rfl) (hd : (x == ("__debug__" : Str)) = false := by decide) (hcd : (x == ("__classdict__" : Str)) = false := by decide) : SE X B W (.Subscript (.Name x p') e pos) (ixOwnF i g) := by
  refine PE.imp (pe_ix ix_list (pe_var hN hv hd hcd) hg hs) fun σ H Q ⟨M, s, r, p⟩ => ?_
  unfold ixOwnF at p
  split at p
  · exact p.elim
  · rename_i es0 e0
    obtain ⟨a, xs0, e1, _, _⟩ := ownAt.run r e0
    refine ⟨_, e1, M, s, r, Post.bind p fun y s1 M1 H1 u r1 q1 ev1 p1 => ?_⟩
    split at p1
    · rename_i j ds e2
      cases q1
      obtain ⟨a2, xs, e3, hq, hx⟩ := ownAt.run r1 e2
      rw [e1] at e3
      cases e3
      unfold toR at p1
      split at p1
      · rename_i d e4
        obtain ⟨w, hw, qw⟩ := atD.run hx e4
        exact ⟨a, xs, j, w, rfl, rfl, hK ▸ hq, hw, p1.out r1 qw⟩
      · exact p1.elim
    · exact p1.elim
def lenOwnF (i : Nat) : F D := fun s => match ownAt s i with
  | some ds => .ok (.int ds.length) s
  | none => .no
theorem se_lenOwn (i : Nat) {x : Str} {p' p'' : Pos} (hK : X.K = B.K) (hg : Gl X "len") (hm : X.mg "len" = none) (hN : X.N[i]? = some x := by rfl) (hv : Vis X.env.scope x := by first | exact Or.inl rfl | exact Or.inr (Or.inl rfl) | exact Or.inr (Or.inr rfl))
    (hd : (x == ("__debug__" : Str)) = false := by decide) (hcd : (x == ("__classdict__" : Str)) = false := by decide) : SE X B W (.Call (.Name "len" p') [.Name x p''] [] pos) (lenOwnF i) := by
  refine PE.imp (pe_callB call_len_seq hg hm PySem.boot_len (pa_cons (pe_var hN hv hd hcd) pa_nil)) fun σ H Q ⟨M, s, r, p⟩ => ?_
  unfold lenOwnF at p
  split at p
  · rename_i ds e0
    obtain ⟨a, xs, e1, hq, hx⟩ := ownAt.run r e0
    refine ⟨_, e1, a, xs, rfl, .inl (hK ▸ hq), ?_⟩
    rw [hx.length]
    exact p.out r (.int _)
  · exact p.elim
/-- own.append(e) as a statement -/
def appG (i : Nat) (f : F D) : G := fun s => match ownAt s i with
  | none => .no
  | some _ => (f s).out fun y s1 => match ownAt s1 i with
    | some ds => if ds.length < sizeLine then match ownPut s1 i (ds ++ [y]) with
      | some s2 => .nx s2
      | none => .no
      else .no
    | none => .no
theorem ss_app (i : Nat) {st : Stmt} (hK : X.K = B.K) (h : PS X st (tDrop (tBM X.K "list" rAppend (tVar i) (tCons (tP B W (rhoD B) f) tNil)))) : SS X B W st (appG i f) := by
  refine PS.imp h fun E σ H ⟨M, s, r, p⟩ => ?_
  unfold appG at p
  split at p
  · exact p.elim
  · rename_i es0 e0
    obtain ⟨a, xs0, e1, hq0, _⟩ := ownAt.run r e0
    refine ⟨_, e1, .inl ⟨rfl, xs0, hK ▸ hq0⟩, M, s, r, PostS.bind p fun y s1 M1 H1 u r1 q1 ev1 p1 => ?_⟩
    split at p1
    · rename_i ds e2
      split at p1
      · rename_i hz
        split at p1
        · rename_i s2 e4
          obtain ⟨a2, xs, es2, e5, e6, h7, h8, h9, _⟩ := ownPut.run r1 e4
          rw [e2] at e5
          cases e5
          rw [e1] at e6
          cases e6
          obtain ⟨r2, ev2⟩ := ownPut.upd r1 e4 e1 (h9.snoc q1)
          exact ⟨a, xs, u, rfl, rfl, h7, by rw [h9.length]; exact hz, p1 σ _ M1 r2 ev2⟩
        · exact p1.elim
      · exact p1.elim
    · exact p1.elim
/-- own[i] = e -/
def setIxG (i : Nat) (g : F D) (f : F D) : G := fun s => (f s).out fun y s1 => match ownAt s1 i with
  | none => .no
  | some _ => (g s1).out fun j s2 => match j, ownAt s2 i with
    | .int j, some ds => match ixN ds.length j with
      | some n => match ownPut s2 i (ds.set n y) with
        | some s3 => .nx s3
        | none => .no
      | none => .no
    | _, _ => .no
theorem ss_setIx (i : Nat) {x : Str} {e' : Expr} {p' tpos : Pos} (hK : X.K = B.K) (hg : SE X B W e' g) (he : SE X B W e f) (hN : X.N[i]? = some x := by rfl) (hv : Vis X.env.scope x := by first | exact Or.inl rfl | exact Or.inr (Or.inl rfl) | exact Or.inr (Or.inr rfl))
    (hd : (x == ("__debug__" : Str)) = false := by decide) (hcd : (x == ("__classdict__" : Str)) = false := by decide)
    (ha : ∀ v, assign (.Subscript (.Name x p') e' tpos) X.env v = (do
      let ov ← holding [v] (eval (.Name x p') X.env)
      let iv ← holding [v, ov] (eval e' X.env)
      standAt tpos
      holding [v, ov, iv] (setItem ov iv v)
      release [v, ov, iv] []) := by intro _; rfl)
    (hs : swapsWithSole [.Subscript (.Name x p') e' tpos] e pos.line X.env = pure false := by rfl) (hw : swappedStores [.Subscript (.Name x p') e' tpos] e X.env = pure none := by rfl)
    (h1 : (assignEach [.Subscript (.Name x p') e' tpos] X.env).map (·.2) = [assign (.Subscript (.Name x p') e' tpos) X.env] := by rfl) : SS X B W (.Assign [.Subscript (.Name x p') e' tpos] e pos) (setIxG i g f) := by
  refine PS.imp (ps_asg he (pg_sub (pe_var hN hv hd hcd) hg set_list ha) hs hw h1) fun E σ H ⟨M, s, r, p⟩ => ⟨M, s, r, PostS.bind p fun y s1 M1 H1 u r1 q1 ev1 p1 => ?_⟩
  split at p1
  · exact p1.elim
  · rename_i es0 e0
    obtain ⟨a, xs0, e1, hq0, _⟩ := ownAt.run r1 e0
    refine ⟨_, e1, M1, s1, r1, PostS.bind p1 fun j s2 M2 H2 w r2 q2 ev2 p2 => ?_⟩
    split at p2
    · rename_i j ds e2
      cases q2
      split at p2
      · rename_i n en
        split at p2
        · rename_i s3 e4
          obtain ⟨a2, xs, es2, e5, e6, h7, h8, h9, _⟩ := ownPut.run r2 e4
          rw [e2] at e5
          cases e5
          rw [e1] at e6
          cases e6
          obtain ⟨r3, ev3⟩ := ownPut.upd r2 e4 e1 (RpL.set (q1.move r1.mo ev2) n h9)
          exact ⟨a, xs, j, n, rfl, rfl, h7, by rw [h9.length]; exact en, p2 σ _ M2 r3 ev3⟩
        · exact p2.elim
      · exact p2.elim
    · exact p2.elim
/-- own.pop(e) -/
def popF (i : Nat) (g : F D) : F D := fun s => match ownAt s i with
  | none => .no
  | some _ => (g s).bind fun y s1 => match y, ownAt s1 i with
    | .int j, some ds => if -(2 ^ 63) ≤ j ∧ j < 2 ^ 63 then match seqIndex? j ds.length with
      | some n => match ds[n]?, ownPut s1 i (ds.eraseIdx n) with
        | some d, some s2 => .ok d s2
        | _, _ => .no
      | none => .no
      else .no
    | _, _ => .no
theorem RpL.erase {K : PySem.W.Frag} {M : MS} {H : Hp} : ∀ {vs : List V} {ds : List D} (i : Nat), RpL K M H vs ds → RpL K M H (vs.eraseIdx i) (ds.eraseIdx i)
  | _, _, _, .nil => by simpa using RpL.nil
  | _, _, 0, .cons _ t => t
  | _, _, i + 1, .cons q t => .cons q (RpL.erase i t)
theorem se_pop (i : Nat) {e0 : Expr} (hK : X.K = B.K) (h : PE X e0 (tBM X.K "list" rPopAt (tVar i) (tCons (tP B W (rhoD B) g) tNil))) : SE X B W e0 (popF i g) := by
  refine PE.imp h fun σ H Q ⟨M, s, r, p⟩ => ?_
  unfold popF at p
  split at p
  · exact p.elim
  · rename_i es0 e0
    obtain ⟨a, xs0, e1, hq0, _⟩ := ownAt.run r e0
    refine ⟨_, e1, .inl ⟨rfl, xs0, hK ▸ hq0⟩, M, s, r, Post.bind p fun y s1 M1 H1 u r1 q1 ev1 p1 => ?_⟩
    split at p1
    · rename_i j ds e2
      cases q1
      split at p1
      · rename_i hz
        split at p1
        · rename_i n hn
          split at p1
          · rename_i d s2 hd1 e4
            obtain ⟨a2, xs, es2, e5, e6, h7, h8, h9, _⟩ := ownPut.run r1 e4
            rw [e2] at e5
            cases e5
            rw [e1] at e6
            cases e6
            obtain ⟨r2, ev2⟩ := ownPut.upd r1 e4 e1 (h9.erase n)
            obtain ⟨v, hv1, qv⟩ := h9.get hd1
            exact ⟨a, xs, j, n, v, rfl, rfl, h7, hz.1, hz.2, by rw [h9.length]; exact hn, hv1, p1 v _ M1 r2 (qv.move r1.mo ev2) ev2⟩
          · exact p1.elim
        · exact p1.elim
      · exact p1.elim
    · exact p1.elim

/-! ### what is walked -/
/-- the iterator J walks the data ds, from (M, H) on -/
structure Wk (K : PySem.W.Frag) (M : MS) (H : Hp) (J : It) (ds : List D) : Prop where
  go : ∀ i d M' H', MOk M' H' → Ev M H M' H' → ds[i]? = some d → J.go i H' ∧ ∀ x H'', J.yld i H' x H'' → Same H' H'' ∧ Rp K M' H'' x d
  stop : ∀ M' H', MOk M' H' → Ev M H M' H' → J.stop ds.length H'
def PostI (B : Bs) (W : WX) (M : MS) (H : Hp) (σ : L2.St) (r : R (List D)) (Q : It → Hp → Prop) : Prop := match r with
  | .ok ds s' => ∀ J H' M', SR B M' σ H' s' → Wk B.K M' H' J ds → Ev M H M' H' → Q J H'
  | .er x s' => ∀ cls od H' M', SR B M' σ H' s' → XR B.K M' H' cls od x → Ev M H M' H' → W cls od σ H'
  | .no => False
def tI (B : Bs) (W : WX) (f : F (List D)) : TI := fun σ H Q => ∃ M s, SR B M σ H s ∧ PostI B W M H σ (f s) Q
def SI (X : Cx) (B : Bs) (W : WX) (tg iter : Expr) (f : F (List D)) : Prop := PI X tg iter (tI B W f)
theorem PI.imp {tg iter : Expr} {t u : TI} (h : PI X tg iter t) (k : ∀ σ H Q, u σ H Q → t σ H Q) : PI X tg iter u := ⟨fun pins s σ H Q I q => h.run pins s σ H Q I (k σ H Q q)⟩
theorem PI.or {tg iter : Expr} {t u : TI} (h1 : PI X tg iter t) (h2 : PI X tg iter u) : PI X tg iter (fun σ H Q => t σ H Q ∨ u σ H Q) := ⟨fun pins s σ H Q I q => q.elim (h1.run pins s σ H Q I) (h2.run pins s σ H Q I)⟩
variable {α β : Type} {M M' : MS} {σ : L2.St} {H H' : Hp} {s : List Sl}
theorem PostI.later {r : R (List D)} {Q : It → Hp → Prop} (h : PostI B W M H σ r Q) (ev : Ev M H M' H') : PostI B W M' H' σ r Q := by
  cases r with
  | ok d s' => exact fun v H2 M2 a b c => h v H2 M2 a b (ev.trans c)
  | er x s' => exact fun cls od H2 M2 a b c => h cls od H2 M2 a b (ev.trans c)
  | no => exact h
theorem PostI.bind {rho : RelT β α} {r : R α} {g : α → F (List D)} {Q : It → Hp → Prop} {Q1 : β → Hp → Prop} (h : PostI B W M H σ (r.bind g) Q)
    (k : ∀ d s1 M1 H1 x, SR B M1 σ H1 s1 → rho M1 H1 x d → Ev M H M1 H1 → PostI B W M1 H1 σ (g d s1) Q → Q1 x H1) : Post B W rho M H σ r Q1 := by
  cases r with
  | ok d s' => exact fun v H2 M2 a b c => k d s' M2 H2 v a b c (PostI.later h c)
  | er x s' => exact h
  | no => exact h
theorem PostI.out {ds : List D} {Q : It → Hp → Prop} {J : It} (h : PostI B W M H σ (.ok ds s) Q) (r : SR B M σ H s) (w : Wk B.K M H J ds) : Q J H := h J H M r w .rfl
theorem SqL.ev {K : PySem.W.Frag} {a : Addr} {xs : List V} (h : (Rd H a (.lst xs) ∧ ¬ M a) ∨ (∀ H, SqL K H a xs)) (ev : Ev M H M' H') : SqL K H' a xs := by
  rcases h with ⟨h, n⟩ | h
  · exact .inl (Rd.step nt_lst ev.st n h)
  · exact h H'
theorem wk_list {K : PySem.W.Frag} {a : Addr} {xs : List V} {ds : List D} (m : MOk M H) (h : (Rd H a (.lst xs) ∧ ¬ M a) ∨ (∀ H, SqL K H a xs)) (l : RpL K M H xs ds) : Wk K M H (Itl K a) ds where
  go := fun i d M' H' m' ev e => by
    obtain ⟨v, hv, q⟩ := l.get e
    refine ⟨⟨xs, v, SqL.ev h ev, hv⟩, fun x H'' y => ?_⟩
    obtain ⟨rfl, y⟩ := y
    have := y xs (SqL.ev h ev)
    rw [hv] at this
    cases this
    exact ⟨.refl _, q.move m ev⟩
  stop := fun M' H' m' ev => ⟨xs, SqL.ev h ev, by rw [l.length]; exact Nat.le_refl _⟩
theorem SqT.ev {K : PySem.W.Frag} {a : Addr} {xs : List V} (m : MOk M H) (h : Rd H a (.tup xs) ∨ (∀ H, SqT K H a xs)) (ev : Ev M H M' H') : SqT K H' a xs := by
  rcases h with h | h
  · exact .inl (Rd.step nt_tup ev.st (Rd.notMT m h) h)
  · exact h H'
theorem wk_tup {K : PySem.W.Frag} {a : Addr} {xs : List V} {ds : List D} (m : MOk M H) (h : Rd H a (.tup xs) ∨ (∀ H, SqT K H a xs)) (l : RpL K M H xs ds) : Wk K M H (Itt K a) ds where
  go := fun i d M' H' m' ev e => by
    obtain ⟨v, hv, q⟩ := l.get e
    refine ⟨⟨xs, v, SqT.ev m h ev, hv⟩, fun x H'' y => ?_⟩
    obtain ⟨rfl, y⟩ := y
    have := y xs (SqT.ev m h ev)
    rw [hv] at this
    cases this
    exact ⟨.refl _, q.move m ev⟩
  stop := fun M' H' m' ev => ⟨xs, SqT.ev m h ev, by rw [l.length]; exact Nat.le_refl _⟩
/-- over a list or a tuple -/
def iterF (f : F D) : F (List D) := fun s => (f s).bind fun d s1 => match d with
  | .lst ds => .ok ds s1
  | .tup ds => .ok ds s1
  | .fz ds => .ok ds s1
  | _ => .no
theorem si_seq {tg : Expr} (hK : X.K = B.K) (he : SE X B W e f) : SI X B W tg e (iterF f) := by
  refine PI.imp (PI.or (pi_list he) (pi_tup he)) fun σ H Q ⟨M, s, r, p⟩ => ?_
  unfold iterF at p
  cases hf : f s with
  | no => rw [hf] at p; exact p.elim
  | er x s1 =>
    refine .inl ⟨M, s, r, ?_⟩
    rw [hf] at p ⊢
    exact p
  | ok d s1 =>
    rw [hf, R.bind_ok] at p
    cases d with
    | lst ds =>
      refine .inl ⟨M, s, r, ?_⟩
      rw [hf]
      intro v H1 M1 r1 q1 ev1
      have p1 : PostI B W M1 H1 σ (.ok ds s1) Q := PostI.later p ev1
      cases q1 with
      | lst h n l => exact ⟨_, rfl, ⟨_, .of h⟩, (by rw [hK]; exact p1.out r1 (wk_list r1.mo (.inl ⟨.of h, n⟩) l))⟩
    | fz ds =>
      refine .inl ⟨M, s, r, ?_⟩
      rw [hf]
      intro v H1 M1 r1 q1 ev1
      have p1 : PostI B W M1 H1 σ (.ok ds s1) Q := PostI.later p ev1
      cases q1 with
      | fz h n l => exact ⟨_, rfl, ⟨_, .inl h⟩, (by rw [hK]; exact p1.out r1 (wk_list r1.mo (.inl ⟨h, n⟩) l))⟩
      | fzK h l => exact ⟨_, rfl, ⟨_, hK ▸ h H1⟩, (by rw [hK]; exact p1.out r1 (wk_list r1.mo (.inr h) l))⟩
    | tup ds =>
      refine .inr ⟨M, s, r, ?_⟩
      rw [hf]
      intro v H1 M1 r1 q1 ev1
      have p1 : PostI B W M1 H1 σ (.ok ds s1) Q := PostI.later p ev1
      cases q1 with
      | tup h l => exact ⟨_, rfl, ⟨_, .of h⟩, (by rw [hK]; exact p1.out r1 (wk_tup r1.mo (.inl (.of h)) l))⟩
      | tupK h l => exact ⟨_, rfl, ⟨_, hK ▸ h.sq H1⟩, (by rw [hK]; exact p1.out r1 (wk_tup r1.mo (.inr h.sq) l))⟩
    | _ => exact p.elim

/-! ### for -/
/-- the turns of a loop -/
def forL (a : AS) (g : G) : List D → G
  | [], s => .nx s
  | d :: ds, s => match a d s with
    | none => .no
    | some s1 => match g s1 with
      | .nx s2 => forL a g ds s2
      | .ct s2 => forL a g ds s2
      | .bk s2 => .nx s2
      | .rt d s2 => .rt d s2
      | .rn d s2 => .rn d s2
      | .er x s2 => .er x s2
      | .no => .no
def forG (f : F (List D)) (a : AS) (g : G) : G := fun s => (f s).out fun ds s1 => forL a g ds s1
theorem PostS.bindI {r : R (List D)} {g : List D → G} {E : Ends} {Q1 : It → Hp → Prop} (h : PostS B W M H (r.out g) E)
    (k : ∀ ds s1 M1 H1 J, SR B M1 σ H1 s1 → Wk B.K M1 H1 J ds → Ev M H M1 H1 → PostS B W M1 H1 (g ds s1) E → Q1 J H1) : PostI B W M H σ r Q1 := by
  cases r with
  | ok d s' => exact fun v H2 M2 a b c => k d s' M2 H2 v a b c (PostS.later h c)
  | er x s' => exact fun cls od H' M' a b => h cls od σ H' M' a b
  | no => exact h
theorem ss_for {tg iter : Expr} {body : List Stmt} {ks : List Nat} {a : AS} {gb : G} (hp : PassesOwn (model X.prog X.w) X.A X.env X.xe) (hc : X.calm = true) (hi : SI X B W tg iter k) (hg : SG X B ks tg a) (hb : SSs X B W body gb)
    (hs : ∀ x, foldedSetIterable iter X.env x = pure x := by intro _; rfl) : SS X B W (.For tg iter body [] pos) (forG k a gb) := by
  refine PS.imp (ps_for hp hc hi hg hb hs) fun E σ H ⟨M, s, r, p⟩ => ⟨M, s, r, PostS.bindI p fun ds s1 M1 H1 J r1 wk ev1 p1 => ?_⟩
  refine ⟨fun i m σ' H' => m = ds.length - i ∧ i ≤ ds.length ∧ ∃ M' s', SR B M' σ' H' s' ∧ Ev M1 H1 M' H' ∧ PostS B W M' H' (forL a gb (ds.drop i) s') E, ⟨ds.length, rfl, Nat.zero_le _, M1, s1, r1, .rfl, p1⟩, ?_⟩
  rintro i m σ2 H2 ⟨rfl, hi, M2, s2, r2, ev2, p2⟩
  by_cases hlt : i < ds.length
  · obtain ⟨d, hd⟩ : ∃ d, ds[i]? = some d := ⟨ds[i], List.getElem?_eq_getElem hlt⟩
    have hdr : ds.drop i = d :: ds.drop (i + 1) := by
      rw [List.drop_eq_getElem_cons hlt]
      rw [List.getElem?_eq_getElem hlt] at hd
      cases hd
      rfl
    rw [hdr] at p2
    obtain ⟨hgo, hy⟩ := wk.go i d M2 H2 r2.mo ev2 hd
    refine .inr ⟨hgo, fun σ' H' => ∃ M' s', SR B M' σ' H' s' ∧ Ev M1 H1 M' H' ∧ PostS B W M' H' (forL a gb (ds.drop (i + 1)) s') E, fun σ' H' q => ⟨ds.length - (i + 1), by omega, rfl, hlt, q⟩, fun x H3 y => ?_⟩
    obtain ⟨sm, qx⟩ := hy x H3 y
    refine ⟨M2, s2, d, r2.grow sm, qx, ?_⟩
    unfold forL at p2
    revert p2
    cases a d s2 with
    | none => exact fun p2 => p2
    | some s3 =>
      intro p2 σ4 H4 M4 r4 ev4 _
      have ev24 : Ev M2 H2 M4 H4 := (Ev.same sm).trans ev4
      refine ⟨M4, s3, r4, ?_⟩
      have p2' := PostS.later p2 ev24
      dsimp only at p2'
      revert p2'
      cases gb s3 with
      | nx s5 => exact fun p2 σ5 H5 M5 r5 ev5 => ⟨M5, s5, r5, (ev2.trans ev24).trans ev5, PostS.later p2 ev5⟩
      | ct s5 => exact fun p2 σ5 H5 M5 r5 ev5 => ⟨M5, s5, r5, (ev2.trans ev24).trans ev5, PostS.later p2 ev5⟩
      | bk s5 => exact fun p2 => p2
      | rt d s5 => exact fun p2 => p2
      | rn d s5 => exact fun p2 => p2
      | er x s5 => exact fun p2 => p2
      | no => exact fun p2 => p2
  · have e : i = ds.length := by omega
    subst e
    rw [List.drop_length] at p2
    exact .inl ⟨wk.stop M2 H2 r2.mo ev2, p2 σ2 H2 M2 r2 .rfl⟩

/-! ### while -/
def whileL (u : F Bool) (g : G) : Nat → G
  | 0, _ => .no
  | n + 1, s => (u s).out fun b s1 => if b = true then match g s1 with
      | .nx s2 => whileL u g n s2
      | .ct s2 => whileL u g n s2
      | .bk s2 => .nx s2
      | .rt d s2 => .rt d s2
      | .rn d s2 => .rn d s2
      | .er x s2 => .er x s2
      | .no => .no
    else .nx s1
/-- n: as many turns as one likes -/
theorem ss_while (n : Nat) {c : Expr} {body : List Stmt} {u : F Bool} {gb : G} (hp : PassesOwn (model X.prog X.w) X.A X.env X.xe) (hc : ST X B W c u) (hb : SSs X B W body gb) : SS X B W (.While c body [] pos) (whileL u gb n) := by
  refine PS.imp (ps_while hp hc hb) fun E σ H ⟨M, s, r, p⟩ => ?_
  refine ⟨fun m σ' H' => ∃ M' s', SR B M' σ' H' s' ∧ PostS B W M' H' (whileL u gb m s') E, ⟨n, M, s, r, p⟩, ?_⟩
  rintro m σ2 H2 ⟨M2, s2, r2, p2⟩
  cases m with
  | zero => exact p2.elim
  | succ m =>
    unfold whileL at p2
    refine ⟨M2, s2, r2, PostS.bind p2 fun b s3 M3 H3 v r3 q3 ev3 p3 => ?_⟩
    have q3 : v = b := q3
    subst q3
    cases v with
    | false =>
      show E.nx σ2 H3
      exact p3 σ2 H3 M3 r3 .rfl
    | true =>
      refine ⟨fun σ' H' => ∃ M' s', SR B M' σ' H' s' ∧ PostS B W M' H' (whileL u gb m s') E, fun σ' H' q => ⟨m, Nat.lt_succ_self m, q⟩, M3, s3, r3, ?_⟩
      rw [if_pos rfl] at p3
      revert p3
      cases gb s3 with
      | nx s5 => exact fun p2 σ5 H5 M5 r5 ev5 => ⟨M5, s5, r5, PostS.later p2 ev5⟩
      | ct s5 => exact fun p2 σ5 H5 M5 r5 ev5 => ⟨M5, s5, r5, PostS.later p2 ev5⟩
      | bk s5 => exact fun p2 => p2
      | rt d s5 => exact fun p2 => p2
      | rn d s5 => exact fun p2 => p2
      | er x s5 => exact fun p2 => p2
      | no => exact fun p2 => p2
end
end Fx

set_option Elab.async false
set_option linter.all false
set_option maxRecDepth 100000
namespace Fx
variable [Tbl]
open PySem L2
/-! ### comprehensions -/
def wipeS (s : List Sl) : List Nat → List Sl
  | [] => s
  | v :: vs => (wipeS s vs).set v .un
def restS (s1 s3 : List Sl) : List Nat → List Sl
  | [] => s3
  | v :: vs => (restS s1 s3 vs).set v (s1.getD v .un)
theorem wipeS_length (s : List Sl) : ∀ vs, (wipeS s vs).length = s.length
  | [] => rfl
  | v :: vs => by unfold wipeS; rw [List.length_set, wipeS_length s vs]
theorem restS_length (s1 s3 : List Sl) : ∀ vs, (restS s1 s3 vs).length = s3.length
  | [] => rfl
  | v :: vs => by unfold restS; rw [List.length_set, restS_length s1 s3 vs]
theorem wipeS_get (s : List Sl) (i : Nat) : ∀ vs, (wipeS s vs)[i]? = if i ∈ vs then (if i < s.length then some .un else none) else s[i]?
  | [] => by simp [wipeS]
  | v :: vs => by
    unfold wipeS
    by_cases e : v = i
    · subst e
      rw [if_pos List.mem_cons_self]
      by_cases h : v < s.length
      · rw [List.getElem?_set_self (by rw [wipeS_length]; exact h), if_pos h]
      · rw [if_neg h]
        exact List.getElem?_eq_none (by rw [List.length_set, wipeS_length]; omega)
    · rw [List.getElem?_set_ne e, wipeS_get s i vs]
      have : (i ∈ v :: vs) = (i ∈ vs) := by simp [Ne.symm e]
      simp only [this]
theorem wipe_get (σ : L2.St) (i : Nat) : ∀ vs, (wipe σ vs)[i]? = if i ∈ vs then (if i < σ.length then some none else none) else σ[i]?
  | [] => by simp [wipe]
  | v :: vs => by
    unfold wipe
    by_cases e : v = i
    · subst e
      rw [if_pos List.mem_cons_self]
      by_cases h : v < σ.length
      · rw [List.getElem?_set_self (by rw [wipe_length]; exact h), if_pos h]
      · rw [if_neg h]
        exact List.getElem?_eq_none (by rw [List.length_set, wipe_length]; omega)
    · rw [List.getElem?_set_ne e, wipe_get σ i vs]
      have : (i ∈ v :: vs) = (i ∈ vs) := by simp [Ne.symm e]
      simp only [this]
theorem restS_get (s1 s3 : List Sl) (i : Nat) : ∀ vs, (restS s1 s3 vs)[i]? = if i ∈ vs then (if i < s3.length then some (s1.getD i .un) else none) else s3[i]?
  | [] => by simp [restS]
  | v :: vs => by
    unfold restS
    by_cases e : v = i
    · subst e
      rw [if_pos List.mem_cons_self]
      by_cases h : v < s3.length
      · rw [List.getElem?_set_self (by rw [restS_length]; exact h), if_pos h]
      · rw [if_neg h]
        exact List.getElem?_eq_none (by rw [List.length_set, restS_length]; omega)
    · rw [List.getElem?_set_ne e, restS_get s1 s3 i vs]
      have : (i ∈ v :: vs) = (i ∈ vs) := by simp [Ne.symm e]
      simp only [this]
theorem wipe_eq {σ σ' : L2.St} {vs : List Nat} (hl : σ'.length = σ.length) (h : ∀ i, i ∉ vs → σ'[i]? = σ[i]?) : wipe σ' vs = wipe σ vs := by
  refine List.ext_getElem? fun i => ?_
  rw [wipe_get, wipe_get, hl]
  by_cases hi : i ∈ vs
  · rw [if_pos hi, if_pos hi]
  · rw [if_neg hi, if_neg hi]
    exact h i hi
theorem wipe_wipe {σ : L2.St} {vs : List Nat} : wipe (wipe σ vs) vs = wipe σ vs := wipe_eq (wipe_length σ vs) fun i hi => by rw [wipe_get, if_neg hi]
def okC (s : List Sl) (v : Nat) : Bool := match s[v]? with
  | some (.ow _) => false
  | some (.io _) => false
  | _ => true
section
variable {B : Bs} {M M' : MS} {σ : L2.St} {H H' : Hp} {s s1 s3 : List Sl}
theorem SR.wiped {vs : List Nat} (r : SR B M σ H s) (h : ∀ v ∈ vs, ∀ ds : MO, s[v]? ≠ some (.io ds)) : SR B M (wipe σ vs) H (wipeS s vs) := by
  have up : ∀ {i : Nat} {x : Sl}, (wipeS s vs)[i]? = some x → x ≠ .un → i ∉ vs ∧ s[i]? = some x := fun {i x} e n => by
    rw [wipeS_get] at e
    by_cases hi : i ∈ vs
    · rw [if_pos hi] at e
      split at e
      · cases e
        exact absurd rfl n
      · cases e
    · rw [if_neg hi] at e
      exact ⟨hi, e⟩
  have dw : ∀ {i : Nat}, i ∉ vs → (wipe σ vs)[i]? = σ[i]? := fun {i} hi => by rw [wipe_get, if_neg hi]
  exact {
    va := fun i d e => by
      obtain ⟨hi, e⟩ := up e (by intro z; cases z)
      rw [dw hi]
      exact r.va i d e
    ow := fun i d e => by
      obtain ⟨hi, e⟩ := up e (by intro z; cases z)
      rw [dw hi]
      exact r.ow i d e
    io := fun i d e => by
      obtain ⟨hi, e⟩ := up e (by intro z; cases z)
      have q := r.io i d e
      rw [q.1] at hi
      rw [dw hi]
      exact q
    pa := fun a ha => by
      obtain ⟨h1, ds, h2⟩ := r.pa a ha
      refine ⟨h1, ds, ?_⟩
      have n0 : 0 ∉ vs := fun z => h 0 z ds h2
      rw [wipeS_get, if_neg n0]
      exact h2
    ne := fun i j ds es a n h1 h2 h3 h4 => by
      obtain ⟨hi, e1⟩ := up h1 (by intro z; cases z)
      obtain ⟨hj, e2⟩ := up h2 (by intro z; cases z)
      rw [dw hi] at h3
      rw [dw hj] at h4
      exact r.ne i j ds es a n e1 e2 h3 h4
    mo := r.mo
    up := r.up
    dn := r.dn
    st := r.st
    bm := r.bm
    lk := fun b o e => by
      obtain ⟨h1, h2, h3⟩ := r.lk b o e
      refine ⟨h1, h2, fun ⟨j, ds, h4, h5⟩ => h3 ?_⟩
      rcases h4 with h4 | h4
      · obtain ⟨hj, e2⟩ := up h4 (by intro z; cases z)
        rw [dw hj] at h5
        exact ⟨j, ds, .inl e2, h5⟩
      · obtain ⟨hj, e2⟩ := up h4 (by intro z; cases z)
        rw [dw hj] at h5
        exact ⟨j, ds, .inr e2, h5⟩
    len := by rw [wipeS_length, wipe_length]; exact r.len
    tb := r.tb }
theorem SR.restore {vs : List Nat} (r1 : SR B M σ H s1) (r : SR B M' (wipe σ vs) H' (wipeS s3 vs)) (ev : Ev M H M' H') (h : ∀ v ∈ vs, okC s1 v = true) : SR B M' σ H' (restS s1 s3 vs) := by
  have l3 : s3.length = σ.length := by
    have := r.len
    rw [wipeS_length, wipe_length] at this
    exact this
  have old : ∀ {i : Nat} {x : Sl}, i ∈ vs → (restS s1 s3 vs)[i]? = some x → s1[i]? = some x := fun {i x} hi e => by
    rw [restS_get, if_pos hi] at e
    split at e
    · rename_i hl
      cases e
      have : i < s1.length := by rw [r1.len, ← l3]; exact hl
      rw [List.getD_eq_getElem?_getD, List.getElem?_eq_getElem this]
      rfl
    · cases e
  have new : ∀ {i : Nat} {x : Sl}, i ∉ vs → (restS s1 s3 vs)[i]? = some x → (wipeS s3 vs)[i]? = some x := fun {i x} hi e => by
    rw [restS_get, if_neg hi] at e
    rw [wipeS_get, if_neg hi]
    exact e
  have dw : ∀ {i : Nat}, i ∉ vs → (wipe σ vs)[i]? = σ[i]? := fun {i} hi => by rw [wipe_get, if_neg hi]
  have noOw : ∀ {i : Nat} {ds : MO}, (restS s1 s3 vs)[i]? = some (.ow ds) ∨ (restS s1 s3 vs)[i]? = some (.io ds) → i ∉ vs := fun {i ds} e hi => by
    have q := h i hi
    unfold okC at q
    rcases e with e | e
    · rw [old hi e] at q
      cases q
    · rw [old hi e] at q
      cases q
  exact {
    va := fun i d e => by
      by_cases hi : i ∈ vs
      · obtain ⟨v, e1, q⟩ := r1.va i d (old hi e)
        exact ⟨v, e1, q.move r1.mo ev⟩
      · rw [← dw hi]
        exact r.va i d (new hi e)
    ow := fun i d e => by
      have hi := noOw (.inl e)
      rw [← dw hi]
      exact r.ow i d (new hi e)
    io := fun i d e => by
      have hi := noOw (.inr e)
      have q := r.io i d (new hi e)
      rw [q.1] at hi
      rw [← dw hi]
      exact q
    pa := fun a ha => by
      obtain ⟨h1, ds, h2⟩ := r.pa a ha
      refine ⟨h1, ds, ?_⟩
      rw [wipeS_get] at h2
      by_cases hi : 0 ∈ vs
      · rw [if_pos hi] at h2
        split at h2 <;> cases h2
      · rw [if_neg hi] at h2
        rw [restS_get, if_neg hi]
        exact h2
    ne := fun i j ds es a n h1 h2 h3 h4 => by
      have hi := noOw (.inl h1)
      have hj := noOw (.inl h2)
      exact r.ne i j ds es a n (new hi h1) (new hj h2) (by rw [dw hi]; exact h3) (by rw [dw hj]; exact h4)
    mo := r.mo
    up := r.up
    dn := r.dn
    st := r.st
    bm := r.bm
    lk := fun b o e => by
      obtain ⟨h1, h2, h3⟩ := r.lk b o e
      refine ⟨h1, h2, fun ⟨j, ds, h4, h5⟩ => h3 ?_⟩
      have hj := noOw h4
      exact ⟨j, ds, h4.imp (new hj) (new hj), by rw [dw hj]; exact h5⟩
    len := by rw [restS_length]; exact l3
    tb := r.tb }
/-- an owned object that is in no slot is locked, is changed, is let go -/
def Bs.lock (B : Bs) (p : Addr) (o : HO) : Bs := { B with L := fun b => if b = p then some o else B.L b }
theorem SR.locked {p : Addr} {o : HO} (r : SR B M σ H s) (hp : H p = some o) (hm : M p) (hn : ¬ Own σ s p) : SR (B.lock p o) M σ H s where
  va := r.va
  ow := r.ow
  io := r.io
  pa := r.pa
  ne := r.ne
  mo := r.mo
  up := r.up
  dn := r.dn
  st := r.st
  bm := r.bm
  lk := fun b u e => by
    by_cases hb : b = p
    · subst hb
      have e : (if b = b then some o else B.L b) = some u := e
      rw [if_pos rfl] at e
      cases e
      exact ⟨hm, hp, hn⟩
    · have e : (if b = p then some o else B.L b) = some u := e
      rw [if_neg hb] at e
      exact r.lk b u e
  len := r.len
  tb := r.tb
theorem SR.relock {p : Addr} {xs ys : List V} (r : SR (B.lock p (.lst xs)) M σ H s) (h0 : Fr0 B.H0 p) : SR (B.lock p (.lst ys)) M σ (upd H p (.lst ys)) s ∧ Ev M H M (upd H p (.lst ys)) := by
  obtain ⟨hm, hp, hn⟩ := r.lk p (.lst xs) (show (if p = p then some (HO.lst xs) else B.L p) = some (.lst xs) by rw [if_pos rfl])
  have st : Step (fun b => b = p) H (upd H p (.lst ys)) := fun b u e n _ => by rw [upd_ne n]; exact e
  have ev : Ev M H M (upd H p (.lst ys)) := ⟨fun _ z => .inl z, fun b u e n t => st b u e (fun z => n (z ▸ hm)) t⟩
  have npa : B.pa ≠ some p := fun z => r.bm.thereF h0 (r.pa p z).1
  refine ⟨?_, ev⟩
  exact {
    va := fun i d e => let ⟨v, e1, q⟩ := r.va i d e; ⟨v, e1, q.move r.mo ev⟩
    ow := fun i d e => by
      obtain ⟨a, zs, e1, q, m, n, l⟩ := r.ow i d e
      have ne : a ≠ p := fun z => hn ⟨i, d, .inl e, z ▸ e1⟩
      exact ⟨a, zs, e1, st _ _ q ne l.noTb, m, n, l.move r.mo ev⟩
    io := fun i d e => by
      obtain ⟨z, a, zs, p2, e1, q, m, l⟩ := r.io i d e
      have ne : a ≠ p := fun z => npa (z ▸ p2)
      exact ⟨z, a, zs, p2, e1, st _ _ q ne l.noTb, m, l.move r.mo ev⟩
    pa := r.pa
    ne := r.ne
    mo := fun b z => by
      by_cases hb : b = p
      · subst hb; rw [upd_same]; exact trivial
      · rw [upd_ne hb]; exact r.mo b z
    up := r.up
    dn := r.dn
    st := fun b u e n t => st b u (r.st b u e n t) (fun z => by
      subst z
      exact h0.no (show B.H0 b = some u from e) t) t
    bm := r.bm
    lk := fun b u e => by
      by_cases hb : b = p
      · subst hb
        have e : (if b = b then some (HO.lst ys) else B.L b) = some u := e
        rw [if_pos rfl] at e
        cases e
        exact ⟨hm, upd_same, hn⟩
      · have e : (if b = p then some (HO.lst ys) else B.L b) = some u := e
        rw [if_neg hb] at e
        obtain ⟨h1, h2, h3⟩ := r.lk b u (show (if b = p then some (HO.lst xs) else B.L b) = some u by rw [if_neg hb]; exact e)
        exact ⟨h1, by rw [upd_ne hb]; exact h2, h3⟩
    len := r.len
    tb := r.tb.setL hp }
theorem SR.unlock {p : Addr} {o : HO} (r : SR (B.lock p o) M σ H s) (hL : B.L p = none) : SR B M σ H s where
  va := r.va
  ow := r.ow
  io := r.io
  pa := r.pa
  ne := r.ne
  mo := r.mo
  up := r.up
  dn := r.dn
  st := r.st
  bm := r.bm
  lk := fun b u e => r.lk b u (show (if b = p then some o else B.L b) = some u by
    by_cases hb : b = p
    · subst hb; rw [hL] at e; cases e
    · rw [if_neg hb]; exact e)
  len := r.len
  tb := r.tb
end
abbrev W0 : WX := fun _ _ _ _ => False
/-- the turns of a comprehension -/
def compL (vs : List Nat) (a : AS) (u : F Bool) (f : F D) : List D → F (List D)
  | [], s => .ok [] s
  | d :: ds, s => match a d (wipeS s vs) with
    | none => .no
    | some s1 => match u s1 with
      | .ok true s2 => match f s2 with
        | .ok y s3 => match compL vs a u f ds s3 with
          | .ok ys s4 => .ok (y :: ys) s4
          | _ => .no
        | _ => .no
      | .ok false s2 => compL vs a u f ds s2
      | _ => .no
def compN (kI : F (List D)) (vs : List Nat) (a : AS) (u : F Bool) (f : F D) : F (List D) := fun s => (kI s).bind fun ds s1 =>
  if ds.length < sizeLine ∧ vs.all (okC s1) = true then match compL vs a u f ds s1 with
    | .ok ys s2 => .ok ys (restS s1 s2 vs)
    | _ => .no
  else .no
theorem compL_len {vs : List Nat} {a : AS} {u : F Bool} {f : F D} : ∀ {ds : List D} {s s' : List Sl} {ys : List D}, compL vs a u f ds s = .ok ys s' → ys.length ≤ ds.length
  | [], _, _, _, h => by unfold compL at h; cases h; exact Nat.le_refl _
  | d :: ds, s, s', ys, h => by
    unfold compL at h
    split at h
    · cases h
    · split at h
      · split at h
        · split at h
          · rename_i e
            cases h
            exact Nat.succ_le_succ (compL_len e)
          · cases h
        · cases h
      · exact Nat.le_succ_of_le (compL_len h)
      · cases h
section
variable {X : Cx} {B : Bs} {W : WX}
theorem PG.ex {tg : Expr} {I : Type} {P : I → Prop} {t : I → TG} (h : ∀ i, P i → PG X tg (t i)) : PG X tg (fun v σ H Q => ∃ i, P i ∧ t i v σ H Q) := ⟨fun pins s σ H v w Q I r ⟨i, hi, q⟩ => (h i hi).run pins s σ H v w Q I r q⟩
theorem PTs.ex {ifs : List Expr} {I : Type} {P : I → Prop} {t : I → TT} (h : ∀ i, P i → PTs X ifs (t i)) : PTs X ifs (fun σ H Q => ∃ i, P i ∧ t i σ H Q) := ⟨fun pins s σ H Q I ⟨i, hi, q⟩ => (h i hi).run pins s σ H Q I q⟩
theorem PE.ex {e : Expr} {I : Type} {P : I → Prop} {t : I → TE} (h : ∀ i, P i → PE X e (t i)) : PE X e (fun σ H Q => ∃ i, P i ∧ t i σ H Q) := ⟨fun pins s σ H Q I ⟨i, hi, q⟩ => (h i hi).run pins s σ H Q I q⟩
def STs (X : Cx) (B : Bs) (W : WX) (ifs : List Expr) (u : F Bool) : Prop := PTs X ifs (tP B W rhoB u)
def yesT : F Bool := fun s => .ok true s
theorem sts_nil : STs X B W [] yesT := ⟨fun pins s σ H Q I ⟨M, s', r, p⟩ => pts_nil.run pins s σ H Q I (p.out r rfl)⟩
theorem sts_one {c : Expr} {u : F Bool} (h : ST X B W c u) : STs X B W [c] u := pts_one h
/-- the reading of a comprehension -/
theorem lc_read {kI : F (List D)} {vs ks : List Nat} {a : AS} {u : F Bool} {f : F D} {σ : L2.St} {H : Hp} {Q : VK} (hks : ∀ i ∈ ks, i ∈ vs) (h : tN B W (compN kI vs a u f) σ H Q) :
    tLc (tI B W kI) (fun v σ H Q => ∃ B' : Bs, B'.K = B.K ∧ tA B' ks a v σ H Q) (fun σ H Q => ∃ B' : Bs, B'.K = B.K ∧ tP B' W0 rhoB u σ H Q) (fun σ H Q => ∃ B' : Bs, B'.K = B.K ∧ tP B' W0 (rhoD B') f σ H Q) vs σ H Q := by
  obtain ⟨M, s, r, p⟩ := h
  refine ⟨M, s, r, ?_⟩
  unfold compN at p
  cases hk : kI s with
  | no => rw [hk] at p; exact p.elim
  | er x s1 => rw [hk] at p; exact p
  | ok ds s1 =>
    rw [hk, R.bind_ok] at p
    intro J H1 M1 r1 wk ev1 A hA
    split at p
    case isFalse => exact p.elim
    case isTrue hc =>
    obtain ⟨hz, hall⟩ := hc
    have hok : ∀ v ∈ vs, okC s1 v = true := fun v hv => List.all_eq_true.mp hall v hv
    split at p
    case h_2 => exact p.elim
    case h_1 tot sfin htot =>
    have notIo : ∀ {M' : MS} {σ' : L2.St} {H' : Hp} {s' : List Sl} {B' : Bs}, B'.pa = B.pa → SR B' M' σ' H' s' → ∀ v ∈ vs, ∀ ds : MO, s'[v]? ≠ some (.io ds) := fun {M' σ' H' s' B'} hp r' v hv ds e => by
      obtain ⟨z, a', _, h1, _⟩ := r'.io v ds e
      subst z
      obtain ⟨_, es, h2⟩ := r1.pa a' (hp ▸ h1)
      have q := hok 0 hv
      unfold okC at q
      rw [h2] at q
      cases q
    obtain ⟨rA, oA⟩ := r1.newOwned (ds := []) hA RpL.nil
    obtain ⟨xs0, hx0, hm0, h00, hl0, hL0, hno0⟩ := oA
    have evA : Ev M1 H1 (With M1 A) (upd H1 A (.lst [])) := ⟨fun c z => z.elim .inl fun z => .inr (z ▸ fr0_none hA), .same (same_upd hA)⟩
    rw [upd_same] at hx0
    cases hx0
    have ownA : ∀ {M' : MS} {σ' : L2.St} {H' : Hp} {s' : List Sl}, SR B M' σ' H' s' → (∀ (j : Nat) (es : MO), s'[j]? = some (.ow es) → σ'[j]? ≠ some (some (.ref A))) → ¬ Own σ' s' A := fun {M' σ' H' s'} r' hn ⟨j, es, h1, h2⟩ => by
      rcases h1 with h1 | h1
      · exact hn j es h1 h2
      · obtain ⟨z, a', _, h3, h4, _⟩ := r'.io j es h1
        subst z
        rw [h2] at h4
        cases h4
        exact r'.bm.thereF h00 (r'.pa _ h3).1
    have rW := (rA.locked upd_same hm0 (ownA rA hno0)).wiped (vs := vs) (notIo rfl r1)
    refine ⟨fun i m H' => m = ds.length - i ∧ i ≤ ds.length ∧ ∃ M' s' acc accd ys, SR (B.lock A (.lst acc)) M' (wipe σ vs) H' (wipeS s' vs) ∧ Ev (With M1 A) (upd H1 A (.lst [])) M' H' ∧ RpL B.K M' H' acc accd ∧ accd.length ≤ i ∧ compL vs a u f (ds.drop i) s' = .ok ys sfin ∧ tot = accd ++ ys,
      ⟨ds.length, rfl, Nat.zero_le _, With M1 A, s1, [], [], tot, rW, .rfl, .nil, Nat.le_refl _, htot, rfl⟩, ?_⟩
    rintro i m H2 ⟨rfl, hi, M2, s2, acc, accd, ys, r2, ev2, q2, hz2, hL, htot2⟩
    have lockA : ∀ {l : List V}, (B.lock A (.lst l)).L A = some (.lst l) := fun {l} => if_pos rfl
    by_cases hlt : i < ds.length
    · obtain ⟨d, hd⟩ : ∃ d, ds[i]? = some d := ⟨ds[i], List.getElem?_eq_getElem hlt⟩
      have hdr : ds.drop i = d :: ds.drop (i + 1) := by
        rw [List.drop_eq_getElem_cons hlt]
        rw [List.getElem?_eq_getElem hlt] at hd
        cases hd
        rfl
      obtain ⟨hgo, hy⟩ := wk.go i d M2 H2 r2.mo (evA.trans ev2) hd
      refine .inr ⟨hgo, fun H' => ∃ M' s' acc accd ys, SR (B.lock A (.lst acc)) M' (wipe σ vs) H' (wipeS s' vs) ∧ Ev (With M1 A) (upd H1 A (.lst [])) M' H' ∧ RpL B.K M' H' acc accd ∧ accd.length ≤ i + 1 ∧ compL vs a u f (ds.drop (i + 1)) s' = .ok ys sfin ∧ tot = accd ++ ys,
        fun H' q => ⟨ds.length - (i + 1), by omega, rfl, hlt, q⟩, fun x H3 y => ?_⟩
      obtain ⟨sm, qx⟩ := hy x H3 y
      rw [hdr] at hL
      unfold compL at hL
      split at hL
      case h_1 => cases hL
      case h_2 s3 ha =>
      refine ⟨B.lock A (.lst acc), rfl, M2, wipeS s2 vs, d, r2.grow sm, qx, ?_⟩
      rw [ha]
      intro σ4 H4 M4 r4 ev4 o4
      have ev24 := (Ev.same (M := M2) sm).trans ev4
      have hw : wipe σ4 vs = wipe σ vs := by
        have := wipe_eq (vs := vs) o4.1 fun j hj => o4.2 j fun z => hj (hks j z)
        rw [this, wipe_wipe]
      refine ⟨hw, B.lock A (.lst acc), rfl, M4, s3, r4, ?_⟩
      have again : ∀ {M' : MS} {H' : Hp} {s' : List Sl} {l : List V}, SR (B.lock A (.lst l)) M' σ4 H' s' → SR (B.lock A (.lst l)) M' (wipe σ vs) H' (wipeS s' vs) := fun {M' H' s' l} r' => by
        have := r'.wiped (vs := vs) (notIo (B' := B.lock A (.lst l)) rfl r')
        rw [hw] at this
        exact this
      cases hu : u s3 with
      | no => rw [hu] at hL; cases hL
      | er x s5 => rw [hu] at hL; cases hL
      | ok b s5 =>
        rw [hu] at hL
        intro b' H5 M5 r5 hb ev5
        have hb : b' = b := hb
        subst hb
        cases b' with
        | false =>
          show ∃ M' s' acc accd ys, _
          exact ⟨M5, s5, acc, accd, ys, again r5, (ev2.trans ev24).trans ev5, (q2.move r2.mo ev24).move r4.mo ev5, Nat.le_succ_of_le hz2, hL, htot2⟩
        | true =>
          dsimp only at hL
          rw [if_pos rfl]
          refine ⟨B.lock A (.lst acc), rfl, M5, s5, r5, ?_⟩
          cases hf : f s5 with
          | no => rw [hf] at hL; cases hL
          | er x s6 => rw [hf] at hL; cases hL
          | ok y s6 =>
            rw [hf] at hL
            dsimp only at hL
            split at hL
            case h_2 => cases hL
            case h_1 ys' s7 hys =>
            cases hL
            intro v H6 M6 r6 q6 ev6
            have eall := ev24.trans (ev5.trans ev6)
            have q6' : RpL B.K M6 H6 acc accd := q2.move r2.mo eall
            obtain ⟨r7, ev7⟩ := r6.relock (ys := acc ++ [v]) h00
            refine ⟨acc, (r6.lk A _ lockA).2.1, ?_, M6, s6, acc ++ [v], accd ++ [y], ys', again r7, ((ev2.trans eall).trans ev7), (q6'.move r6.mo ev7).snoc (Rp.move r6.mo ev7 q6), ?_, hys, ?_⟩
            · rw [q2.length]
              exact Nat.lt_of_le_of_lt (Nat.le_trans hz2 hi) hz
            · rw [List.length_append]
              exact Nat.succ_le_succ hz2
            · rw [htot2, List.append_assoc]
              rfl
    · have e : i = ds.length := by omega
      subst e
      rw [List.drop_length] at hL
      unfold compL at hL
      cases hL
      rw [List.append_nil] at htot2
      subst htot2
      refine .inl ⟨wk.stop M2 H2 r2.mo (evA.trans ev2), ?_⟩
      obtain ⟨hmA, hA2, hnA⟩ := r2.lk A _ lockA
      have rU := r2.unlock hL0
      have rF := r1.restore (s3 := sfin) rU (evA.trans ev2) hok
      refine p A H2 M2 rF ⟨acc, hA2, hmA, h00, q2, hL0, fun j es h z => ?_⟩ ((ev1.trans evA).trans ev2)
      by_cases hj : j ∈ vs
      · have q := hok j hj
        unfold okC at q
        rw [restS_get, if_pos hj] at h
        split at h
        · have hl1 : j < s1.length := by
            rename_i hl
            have := rU.len
            rw [wipeS_length, wipe_length] at this
            rw [r1.len, ← this]
            exact hl
          rw [List.getD_eq_getElem?_getD, List.getElem?_eq_getElem hl1] at h
          rw [List.getElem?_eq_getElem hl1] at q
          simp only [Option.getD_some, Option.some.injEq] at h
          rw [h] at q
          cases q
        · cases h
      · refine hnA ⟨j, es, .inl ?_, by rw [wipe_get, if_neg hj]; exact z⟩
        rw [restS_get, if_neg hj] at h
        rw [wipeS_get, if_neg hj]
        exact h
theorem sn_lc {elt tg iter : Expr} {ifs : List Expr} {scope : Scope} {own : List (Str × Nat)} {pos : Pos} {kI : F (List D)} {ks : List Nat} {a : AS} {u : F Bool} {f : F D} (hc : X.calm = true) (hN : X.N.Nodup) (hi : SI X B W tg iter kI) (ok : BlkOk X.N X.env.scope scope own)
    (hg : ∀ (s : Shared) (H : Hp) (C : Addr) (cl : List (Str × Addr)) (fp : List Addr) (B' : Bs), B'.K = B.K → SG (X.blk s H scope (compEnvC scope cl C X.env) fp) B' ks tg a)
    (ht : ∀ (s : Shared) (H : Hp) (C : Addr) (cl : List (Str × Addr)) (fp : List Addr) (B' : Bs), B'.K = B.K → STs (X.blk s H scope (compEnvC scope cl C X.env) fp) B' W0 ifs u)
    (he : ∀ (s : Shared) (H : Hp) (C : Addr) (cl : List (Str × Addr)) (fp : List Addr) (B' : Bs), B'.K = B.K → SE (X.blk s H scope (compEnvC scope cl C X.env) fp) B' W0 elt f)
    (hks : ∀ i ∈ ks, i ∈ own.map (·.2)) (hs : ∀ x, foldedSetIterable iter X.env x = pure x := by intro _; rfl) : SN X B W (.ListComp elt [⟨tg, iter, ifs, 0⟩] scope pos) (compN kI (own.map (·.2)) a u f) :=
  PE.imp (pe_lc hc hN hi ok (fun s H C cl fp => PG.ex (hg s H C cl fp)) (fun s H C cl fp => PTs.ex (ht s H C cl fp)) (fun s H C cl fp => PE.ex (he s H C cl fp)) hs) fun σ H Q p => lc_read hks p
/-- name = [..] -/
theorem ss_setLc {i : Nat} {y : Str} {py : Pos} {elt tg iter : Expr} {ifs : List Expr} {scope : Scope} {own : List (Str × Nat)} {pos spos : Pos} {kI : F (List D)} {ks : List Nat} {a : AS} {u : F Bool} {f : F D} (hc : X.calm = true) (hN : X.N.Nodup) (hy : X.N[i]? = some y) (hyl : X.env.scope.names.lookup y = some .local)
    (hsw : swapsWith (.ListComp elt [⟨tg, iter, ifs, 0⟩] scope pos) (some (.Name y py)) spos.line X.env = pure true) (hi : SI X B W tg iter kI) (ok : BlkOk X.N X.env.scope scope own)
    (hg : ∀ (s : Shared) (H : Hp) (C : Addr) (cl : List (Str × Addr)) (fp : List Addr) (B' : Bs), B'.K = B.K → SG (X.blk s H scope (compEnvC scope cl C X.env) fp) B' ks tg a)
    (ht : ∀ (s : Shared) (H : Hp) (C : Addr) (cl : List (Str × Addr)) (fp : List Addr) (B' : Bs), B'.K = B.K → STs (X.blk s H scope (compEnvC scope cl C X.env) fp) B' W0 ifs u)
    (he : ∀ (s : Shared) (H : Hp) (C : Addr) (cl : List (Str × Addr)) (fp : List Addr) (B' : Bs), B'.K = B.K → SE (X.blk s H scope (compEnvC scope cl C X.env) fp) B' W0 elt f)
    (hks : ∀ i ∈ ks, i ∈ own.map (·.2)) (hs : ∀ x, foldedSetIterable iter X.env x = pure x := by intro _; rfl) : SS X B W (.Assign [.Name y py] (.ListComp elt [⟨tg, iter, ifs, 0⟩] scope pos) spos) (setNG i (compN kI (own.map (·.2)) a u f)) :=
  PS.imp (ps_setLc hc hN hy hyl hsw hi ok (fun s H C cl fp => PG.ex (hg s H C cl fp)) (fun s H C cl fp => PTs.ex (ht s H C cl fp)) (fun s H C cl fp => PE.ex (he s H C cl fp)) hs) fun E σ H ⟨M, s, r, p⟩ =>
    lc_read hks ⟨M, s, r, PostS.bindN p fun d s1 M1 H1 v r1 q1 ev1 p1 => setN_run r1 q1 p1⟩
end
end Fx

set_option Elab.async false
set_option linter.all false
set_option maxRecDepth 100000
namespace Fx
variable [Tbl]
open PySem L2 PyProof.Rows
/-- a def's promise, called while nothing is being shown -/
structure FnG (P : Program) (w : World) (K : PySem.W.Frag) (mg : Str → Option Value) (base : Heap) (k : Nat) (f : Addr) (fd : FuncData) (ps : List Str) (sp : Sp) : Prop where
  len : ∀ vs H Q E, sp vs H Q E → vs.length = ps.length
  run : ∀ (A : Around) (outer : List Env) (s : Shared) (H : Hp) (args : Args) (us : List Value) (vs : List V) (Q : VK) (E : XK), Room k A → A.guards = some [] → Env0 P w K mg base A outer s H → BindsTo s fd args (ps.zip us) → Vals vs us → sp vs H Q E →
    codeAny (model P w) A (.call (.ref f) args) (CR (L2.CX P w) outer P w H s Q E) s
section
variable {P : Program} {w : World} {K : PySem.W.Frag} {mg : Str → Option Value} {base : Heap}
theorem FnG.of {k : Nat} {f : Addr} {name qual : Str} {params : Arguments} {body : List Stmt} {sc : Scope} {dV kV doc pm cdv ct oc : Value} {an od : Option Addr} {osl : Array (Option Value)} {N ps : List Str} {sp : Sp}
    (lk : K.lookup f = some ⟨oc, od, .func (PySem.W.fnOf name qual params body sc dV kV doc pm an cdv ct), osl⟩) (hcd : PySem.W.codeIn K cdv qual = true) (S : FnScope N ps sc) (len : ∀ vs H Q E, sp vs H Q E → vs.length = ps.length)
    (hbody : ∀ (A : Around) (outer : List Env) (s : Shared) (H : Hp) (vs : List V) (Q : VK) (E : XK), Room k (A.deeper (envOfC qual sc s.heap.objs.size f cdv)) → A.guards = some [] → sp vs H Q E →
      ∃ t, PSs (cxOf (L2.CX P w) P w K mg base N qual sc f cdv A outer s H E) body t ∧ t { nx := fun _ H' => Q .non H', rt := Q } (L2.start N vs) H) :
    FnG P w K mg base (k + 1) f (PySem.W.fnOf name qual params body sc dV kV doc pm an cdv ct) ps sp := by
  constructor
  · exact len
  intro A outer s H args us vs Q E room quiet e0 binds r promise
  have kin : K.In s.heap := e0.mod.kin.keeps fun b o e => (e0.bs b o e).1
  have kinds : ∀ y ∈ ps.zip us, sc.names.lookup y.1 = some .local ∨ (sc.names.lookup y.1 = some .cell ∧ ((cellsFrom (s.heap.objs.size + 1) sc.names []).lookup y.1).isSome = true) := by
    rintro ⟨n, v⟩ hy
    exact (S.par n (List.of_mem_zip hy).1).imp id fun q => ⟨q, PySem.W.cellsFrom_some _ _ _ (.inl q)⟩
  obtain ⟨t, ht, hq⟩ := hbody A outer s H vs Q E (room.deeper _) quiet promise
  refine codeAny_call_function room.depth (kin _ _ lk) rfl S.co S.gen rfl (PySem.W.codeRec_of kin hcd) (binds _ _ _ _ (wpAny_newFunctionEnv_cells S.kind kinds ?_))
  rintro env rfl s1 x
  refine ⟨(e0.mod.nolimit.keeps fun b o e => (e0.bs b o e).1).keeps x.toInCall.keep, codeAny_func ?_⟩
  have I := inv_start (CX := L2.CX P w) (E := E) (A := A) (outer := outer) S room.hd e0 (len _ _ _ _ promise) r x
  refine wpAny_mono (ht.run [] s1 (L2.start N vs) H _ I hq) (fun fl s' hs => ?_) fun e s' hs => hs
  match fl, hs with
  | .ret u, ⟨v, _, H', J, rv, q⟩ => exact ⟨v, H', J.os, J.bare, J.base, J.hok, rv, q⟩
  | .next, ⟨_, H', J, q⟩ => exact ⟨.non, H', J.os, J.bare, J.base, J.hok, rfl, q⟩
  | .brk, ⟨_, _, _, q⟩ => exact q.elim
  | .cont, ⟨_, _, _, q⟩ => exact q.elim
end
/-- the end of a row: the law's own promise at a list of ints -/
theorem walkG {l : PySem.W.OpenLaw} {n k : Nat} {q : Program} {loose : List Str} {XP : (Str → Option Value) → Heap → Prop} {YP : World → Heap → Prop} {d : DefRec} {K : Params → PySem.W.Frag} {sp : PySem.W.Frag → Sp} {x : Str}
    (hn : l.most = some n) (hn2 : n ≤ sizeLine) (hdf : d.params.defaults = []) (hr : Room k callerA) (hY : ∀ (w : World) (h : Heap), YP w h → (K w.params).In h)
    (F : ∀ (w : World) (mg : Str → Option Value) (fa : Addr) (h : Heap), (K w.params).In h → h.Ns mainGlobals mg → mg d.name = some (.ref fa) →
      ∃ fd : FuncData, (∀ (s : Shared) (u : Value), BindsTo s fd ⟨[u], []⟩ [(x, u)]) ∧ ∀ base : Heap, (K w.params).In base → base.Ns mainGlobals mg → FnG l.prog w (K w.params) mg base k fa fd [x] (sp (K w.params)))
    (hsp : ∀ (K : PySem.W.Frag) (H : Hp) (a : Addr) (ns : List Int), ns.length ≤ n → (Rd H a (.lst (ns.map V.int)) ∨ ∀ H, SqL K H a (ns.map V.int)) → sp K [.ref a] H (fun v _ => v = .bl true) fun _ _ _ => False) :
    PySem.W.WalkO q loose XP YP l.row.toRowW d [] (fun f vs => PySem.call f vs) := by
  refine Att.attach_call hn hdf fun w s0 s1 mg mb fa o pm cd doc a vs ns G Y ho hd hcd hmg ha hi hlen hg => ?_
  have KX := hY w _ Y
  obtain ⟨fd, hbind, hF⟩ := F w mg fa _ KX G.T.g hmg
  -- the script is tracked as it stands, unless it is an object of the text's own
  let O : Obj := { cls := .type "list", data := .seq vs.toArray }
  let H : Hp := fun b => if b = a ∧ (K w.params).lookup a = none then some (.frz O (.lst (ns.map V.int))) else none
  have only : ∀ b u, H b = some u → b = a ∧ (K w.params).lookup a = none ∧ u = .frz O (.lst (ns.map V.int)) := fun b u e => by
    have e : (if b = a ∧ (K w.params).lookup a = none then some (HO.frz O (.lst (ns.map V.int))) else none) = some u := e
    split at e
    · rename_i h
      cases e
      exact ⟨h.1, h.2, rfl⟩
    · cases e
  have rv := vals_ints hi
  have hlen' : (ns.map V.int).length ≤ sizeLine := by rw [List.length_map]; exact Nat.le_trans hlen hn2
  have hok : HOk l.prog w H s1.heap := fun b u e => by
    obtain ⟨rfl, _, rfl⟩ := only b u e
    exact ⟨ha, hlen', vs, _, rv, ha⟩
  have free : ∀ {b : Addr} {ob : Obj}, s1.heap.get? b = some ob → ob ≠ O → H b = none := fun {b ob} e ne => by
    cases h : H b with
    | none => rfl
    | some u =>
      obtain ⟨rfl, _⟩ := only b u h
      rw [ha] at e
      exact absurd (Option.some.inj e).symm ne
  have ns' : ∀ {b : Addr} {m : Str → Option Value}, s1.heap.Ns b m → (hidT s1.heap H).Ns b m := fun {b m} ⟨ob, es, ep, e, dd, r⟩ => ⟨ob, es, ep, hidT_get e (free e fun z => by
    rw [z] at dd
    have dd : Data.seq vs.toArray _ = Data.dict es ep := dd
    cases dd), dd, r⟩
  have kb : (K w.params).In (hidT s1.heap H) := fun b ob e => hidT_get (KX b ob e) (by
    cases h : H b with
    | none => rfl
    | some u =>
      obtain ⟨rfl, hk, _⟩ := only b u h
      rw [hk] at e
      cases e)
  have hM : Mod (K w.params) mg (hidT s1.heap H) := ⟨kb, ns' G.T.g, ⟨mb, ns' G.T.b, G.T.builtins⟩, let ⟨mc, h1, h2⟩ := G.T.nolimit; ⟨mc, ns' h1, h2⟩⟩
  have e0 : Env0 l.prog w (K w.params) mg (hidT s1.heap H) callerA [] s1 H := ⟨rfl, hM, fun b ob e => of_hidT e, Nat.le_of_eq (hidT_size _ _), trivial, fun b hb => (by cases hb), hok, .of_eq hg⟩
  have start : Rd H a (.lst (ns.map V.int)) ∨ ∀ H, SqL (K w.params) H a (ns.map V.int) := by
    cases hk : (K w.params).lookup a with
    | none => exact .inl (.inr ⟨O, if_pos ⟨rfl, hk⟩⟩)
    | some ob =>
      have e := KX a ob hk
      rw [ha] at e
      cases e
      exact .inr fun _ => .inr ⟨_, vs.toArray, _, hk, rfl, rfl, rfl, by rw [List.size_toArray, hi.length]; exact Nat.le_trans hlen hn2, by simpa using rv⟩
  refine codeAny_mono ((hF _ kb (ns' G.T.g)).run callerA [] s1 H ⟨[.ref a], []⟩ [.ref a] [.ref a] _ _ hr rfl e0 (hbind s1 (.ref a)) (.cons rfl .nil) (hsp (K w.params) H a ns hlen start)) fun r s' h => ?_
  match r, h with
  | .error e, h =>
    obtain ⟨_, _, _, _, _, _, _, _, _, _, _, _, z⟩ := h
    exact z.elim
  | .ok (.ret u), ⟨v, H', os, bare, un, hok', r', e⟩ =>
    have e : v = .bl true := e
    subst e
    obtain rfl : u = Value.bool true := r'
    refine ⟨rfl, OldK.of_keep fun b ob e => ?_, os, bare⟩
    cases h : H b with
    | none => exact un.keep b ob e h (by intro z; cases z) (by intro z; cases z)
    | some u =>
      obtain ⟨rfl, _, rfl⟩ := only b u h
      obtain ⟨e2, _⟩ := hok' _ _ (un.frzs _ O _ h)
      rw [ha] at e
      cases e
      exact e2
end Fx

set_option Elab.async false
set_option linter.all false
set_option maxRecDepth 100000
namespace Fx
variable [Tbl]
open PySem L2 PyProof.Rows
/-! ### defs -/
inductive FR where
  | ret (d : D) (io : MO) | retn (ds : List D) (io : MO) | er (x : XD) (io : MO) | no
def ioM (io : Bool) (vs : List V) : MS := fun b => io = true ∧ ∃ r, vs = .ref b :: r
def ArgR (K : PySem.W.Frag) (M : MS) (H : Hp) (io : Bool) (vs : List V) (ds : List D) : Prop := match io with
  | false => RpL K M H vs ds
  | true => ∃ (a : Addr) (xs : HO) (as : MO) (r : List V) (dr : List D), vs = .ref a :: r ∧ ds = as.d :: dr ∧ H a = some xs ∧ M a ∧ MR K M H xs as ∧ RpL K M H r dr
def IoR (K : PySem.W.Frag) (M : MS) (H : Hp) (io : Bool) (vs : List V) (ios : MO) : Prop := io = true → ∃ (a : Addr) (r : List V) (xs : HO), vs = .ref a :: r ∧ H a = some xs ∧ MR K M H xs ios
def PostF (K : PySem.W.Frag) (M : MS) (H : Hp) (io : Bool) (vs : List V) (r : FR) (Q : VK) (E : XK) : Prop := match r with
  | .ret d ios => ∀ v H', Step (ioM io vs) H H' → TbOk H' → IoR K M H' io vs ios → Rp K M H' v d → Q v H'
  | .retn ds ios => ∀ p xs H', Step (ioM io vs) H H' → TbOk H' → Fr0 H p → H' p = some (.lst xs) → IoR K (With M p) H' io vs ios → RpL K (With M p) H' xs ds → Q (.ref p) H'
  | .er x ios => ∀ cls od H', Step (ioM io vs) H H' → TbOk H' → IoR K M H' io vs ios → XR K M H' cls od x → E cls od H'
  | .no => False
def spF (K : PySem.W.Frag) (io : Bool) (n : Nat) (F : List D → FR) : Sp := fun vs H Q E => vs.length = n ∧ ∃ M ds, MOk M H ∧ TbOk H ∧ ArgR K M H io vs ds ∧ PostF K M H io vs (F ds) Q E
def startS (N : Nat) (io : Bool) (ds : List D) : List Sl := match io, ds with
  | true, .lst as :: r => .io (.l as) :: (r.map .va ++ List.replicate (N - 1 - r.length) .un)
  | true, .ins n fs :: r => .io (.i n fs) :: (r.map .va ++ List.replicate (N - 1 - r.length) .un)
  | _, ds => ds.map .va ++ List.replicate (N - ds.length) .un
def ioOf (io : Bool) (s : List Sl) : MO := match io, s[0]? with
  | true, some (Sl.io ds) => ds
  | _, _ => .l []
def outF (io : Bool) (o : Out) : FR := match o with
  | .nx s => .ret .non (ioOf io s)
  | .rt d s => .ret d (ioOf io s)
  | .rn ds s => .retn ds (ioOf io s)
  | .er x s => .er x (ioOf io s)
  | _ => .no
def bodyF (N : Nat) (io : Bool) (g : G) (ds : List D) : FR := outF io (g (startS N io ds))
section
variable {K : PySem.W.Frag} {M : MS} {H : Hp} {vs : List V} {ds : List D}
theorem start_va {n : Nat} {i : Nat} {d : D} (h : (ds.map Sl.va ++ List.replicate n .un)[i]? = some (.va d)) : ds[i]? = some d := by
  by_cases hi : i < ds.length
  · rw [List.getElem?_append_left (by simpa using hi), List.getElem?_map] at h
    cases e : ds[i]? with
    | none => rw [e] at h; cases h
    | some x => rw [e] at h; cases h; rfl
  · rw [List.getElem?_append_right (by simpa using hi), List.getElem?_replicate] at h
    split at h <;> cases h
theorem start_no {n : Nat} {i : Nat} {x : Sl} (h : (ds.map Sl.va ++ List.replicate n .un)[i]? = some x) : x = .un ∨ ∃ d, x = .va d := by
  by_cases hi : i < ds.length
  · rw [List.getElem?_append_left (by simpa using hi), List.getElem?_map] at h
    cases e : ds[i]? with
    | none => rw [e] at h; cases h
    | some x => rw [e] at h; cases h; exact .inr ⟨_, rfl⟩
  · rw [List.getElem?_append_right (by simpa using hi), List.getElem?_replicate] at h
    split at h
    · cases h; exact .inl rfl
    · cases h
theorem start_get {n : Nat} {i : Nat} {v : V} (h : vs[i]? = some v) : (vs.map some ++ List.replicate n none)[i]? = some (some v) := by
  rw [List.getElem?_append_left (by rw [List.length_map]; exact (List.getElem?_eq_some_iff.mp h).1), List.getElem?_map, h]
  rfl
/-- the slots at a def's entry -/
theorem SR.enter {io : Bool} {N : List Str} (m : MOk M H) (tk : TbOk H) (a : ArgR K M H io vs ds) (hl : vs.length ≤ N.length) : ∃ pa, SR ⟨K, H, M, pa, fun _ => none⟩ M (L2.start N vs) H (startS N.length io ds) ∧ (∀ b, pa = some b ↔ ioM io vs b) := by
  cases io with
  | false =>
    have a : RpL K M H vs ds := a
    have e : startS N.length false ds = ds.map .va ++ List.replicate (N.length - ds.length) .un := by unfold startS; rfl
    refine ⟨none, ?_, fun b => ⟨fun z => by (cases z), fun z => by (cases z.1)⟩⟩
    rw [e]
    exact {
      va := fun i d h => by
        obtain ⟨v, hv, q⟩ := a.get (start_va h)
        exact ⟨v, start_get hv, q⟩
      ow := fun i d h => by rcases start_no h with z | ⟨_, z⟩ <;> cases z
      io := fun i d h => by rcases start_no h with z | ⟨_, z⟩ <;> cases z
      pa := fun b hb => by cases hb
      ne := fun i j d1 d2 b n h1 => by rcases start_no h1 with z | ⟨_, z⟩ <;> cases z
      mo := m
      up := fun _ z => z
      dn := fun _ z => .inl z
      st := .rfl
      bm := m
      lk := fun b o e => by cases e
      len := by
        have := a.length
        unfold L2.start
        simp only [List.length_append, List.length_map, List.length_replicate]
        omega
      tb := tk }
  | true =>
    obtain ⟨a0, xs, as, r, dr, rfl, rfl, hx, hm, q1, q2⟩ := a
    have e : startS N.length true (as.d :: dr) = .io as :: (dr.map .va ++ List.replicate (N.length - 1 - dr.length) .un) := by cases as <;> rfl
    have e2 : L2.start N (.ref a0 :: r) = some (.ref a0) :: (r.map some ++ List.replicate (N.length - (r.length + 1)) none) := by unfold L2.start; rfl
    refine ⟨some a0, ?_, fun b => ⟨fun z => by (cases z; exact ⟨rfl, _, rfl⟩), fun ⟨_, r', z⟩ => by (cases z; rfl)⟩⟩
    rw [e, e2]
    exact {
      va := fun i d h => by
        cases i with
        | zero => cases h
        | succ i =>
          obtain ⟨v, hv, q⟩ := q2.get (start_va h)
          exact ⟨v, start_get hv, q⟩
      ow := fun i d h => by
        cases i with
        | zero => cases h
        | succ i => rcases start_no h with z | ⟨_, z⟩ <;> cases z
      io := fun i d h => by
        cases i with
        | zero =>
          cases h
          exact ⟨rfl, a0, xs, rfl, rfl, hx, hm, q1⟩
        | succ i => rcases start_no h with z | ⟨_, z⟩ <;> cases z
      pa := fun b hb => by
        cases hb
        exact ⟨hm, as, rfl⟩
      ne := fun i j d1 d2 b n h1 => by
        cases i with
        | zero => cases h1
        | succ i => rcases start_no h1 with z | ⟨_, z⟩ <;> cases z
      mo := m
      up := fun _ z => z
      dn := fun _ z => .inl z
      st := .rfl
      bm := m
      lk := fun b o e => by cases e
      len := by
        have := q2.length
        simp only [List.length_cons, List.length_append, List.length_map, List.length_replicate]
        have hl : r.length + 1 ≤ N.length := hl
        omega
      tb := tk }
theorem SR.leave {io : Bool} {pa : Option Addr} {M' : MS} {σ' : L2.St} {H' : Hp} {s' : List Sl} (r : SR ⟨K, H, M, pa, fun _ => none⟩ M' σ' H' s') (hp : ∀ b, pa = some b ↔ ioM io vs b) (ha : ArgR K M H io vs ds) : Step (ioM io vs) H H' ∧ Sub M M' ∧
    IoR K M' H' io vs (ioOf io s') := by
  refine ⟨fun b o e n t => r.st b o e (fun z => n ((hp b).mp z)) t, r.up, fun hio => ?_⟩
  subst hio
  by_cases h : ∃ b, pa = some b
  · obtain ⟨b, hb⟩ := h
    obtain ⟨_, rr, e⟩ := (hp b).mp hb
    obtain ⟨_, ds, h1⟩ := r.pa b hb
    obtain ⟨_, a, xs, h2, h3, h4, h5, h6⟩ := r.io 0 ds h1
    have h2 : pa = some a := h2
    rw [hb] at h2
    cases h2
    refine ⟨b, rr, xs, e, h4, ?_⟩
    unfold ioOf
    rw [h1]
    exact h6
  · obtain ⟨b, _, _, r', _, e, _⟩ := ha
    exact absurd ⟨b, (hp b).mpr ⟨rfl, r', e⟩⟩ h
theorem XR.sub {M' : MS} {cls : Value} {od : Option Addr} {x : XD} (m : MOk M' H) (s : Sub M M') (h : XR K M' H cls od x) : XR K M H cls od x := by
  obtain ⟨C, hC, h1, h2⟩ := h
  refine ⟨C, hC, h1, h2.imp id fun ⟨d, ws, e1, e2, e3, e4⟩ => ⟨d, ws, e1, e2, e3, e4.move m (.sub s)⟩⟩
/-- a def's body, run -/
theorem body_run {X : Cx} {N : List Str} {io : Bool} {body : List Stmt} {g : G} {E : XK} {Q : VK} (hK : X.K = K) (m : MOk M H) (tk : TbOk H) (a : ArgR K M H io vs ds) (hl : vs.length ≤ N.length)
    (h : ∀ B : Bs, B.K = K → SSs X B (fun cls d _ H => E cls d H) body g) (p : PostF K M H io vs (bodyF N.length io g ds) Q E) :
    ∃ t, PSs X body t ∧ t { nx := fun _ H' => Q .non H', rt := Q } (L2.start N vs) H := by
  obtain ⟨pa, r, hp⟩ := SR.enter (N := N) m tk a hl
  refine ⟨_, h ⟨K, H, M, pa, fun _ => none⟩ rfl, M, startS N.length io ds, r, ?_⟩
  unfold bodyF at p
  revert p
  cases g (startS N.length io ds) with
  | nx s =>
    intro p σ' H' M' r' ev
    obtain ⟨h1, h2, h3⟩ := r'.leave hp a
    refine p .non H' h1 r'.tb (fun z => ?_) .non
    obtain ⟨b, rr, xs, e1, e2, e3⟩ := h3 z
    exact ⟨b, rr, xs, e1, e2, e3.move r'.mo (.sub h2)⟩
  | rt d s =>
    intro p v σ' H' M' r' q ev
    obtain ⟨h1, h2, h3⟩ := r'.leave hp a
    refine p v H' h1 r'.tb (fun z => ?_) (Rp.move r'.mo (.sub h2) q)
    obtain ⟨b, rr, xs, e1, e2, e3⟩ := h3 z
    exact ⟨b, rr, xs, e1, e2, e3.move r'.mo (.sub h2)⟩
  | rn es s =>
    intro p b σ' H' M' r' q ev
    obtain ⟨h1, h2, h3⟩ := r'.leave hp a
    obtain ⟨xs, q1, q2, q3, q4, q5⟩ := q
    have sb : Sub (With M b) M' := fun c z => z.elim (h2 c) fun z => by rw [z]; exact q2
    refine p b xs H' h1 r'.tb q3 q1 (fun z => ?_) (q4.move r'.mo (.sub sb))
    obtain ⟨b2, rr, xs, e1, e2, e3⟩ := h3 z
    exact ⟨b2, rr, xs, e1, e2, e3.move r'.mo (.sub sb)⟩
  | er x s =>
    intro p cls od σ' H' M' r' q _
    obtain ⟨h1, h2, h3⟩ := r'.leave hp a
    refine p cls od H' h1 r'.tb (fun z => ?_) (q.sub r'.mo h2)
    obtain ⟨b2, rr, xs, e1, e2, e3⟩ := h3 z
    exact ⟨b2, rr, xs, e1, e2, e3.move r'.mo (.sub h2)⟩
  | bk s => exact fun p => p.elim
  | ct s => exact fun p => p.elim
  | no => exact fun p => p.elim
end
section
variable {P : Program} {w : World} {K : PySem.W.Frag} {mg : Str → Option Value} {base : Heap}
/-- the context of the def st's body -/
abbrev cxD (P : Program) (w : World) (K : PySem.W.Frag) (mg : Str → Option Value) (base : Heap) (N : List Str) (qual : Str) (sc : Scope) (f : Addr) (cdv : Value) (A : Around) (outer : List Env) (s : Shared) (H : Hp) (E : XK) : Cx := cxOf (L2.CX P w) P w K mg base N qual sc f cdv A outer s H E
theorem fn_mk {x qual : Str} {st : Stmt} {f : Addr} {fd : FuncData} {N ps : List Str} {k : Nat} {io : Bool} {g : G} (F : Fun K x qual st f fd) (S : FnScope N ps (defScope st))
    (h : ∀ (cdv : Value) (A : Around) (outer : List Env) (s : Shared) (H : Hp) (E : XK), Room k (cxD P w K mg base N qual (defScope st) f cdv A outer s H E).A → (cxD P w K mg base N qual (defScope st) f cdv A outer s H E).A.guards = some [] →
      ∀ B : Bs, B.K = K → SSs (cxD P w K mg base N qual (defScope st) f cdv A outer s H E) B (fun cls d _ H => E cls d H) (defBody st) g) :
    FnG P w K mg base (k + 1) f fd ps (spF K io ps.length (bodyF N.length io g)) := by
  obtain ⟨oc, od, kV, doc, pm, an, cdv, ct, osl, rfl, lk, hcd⟩ := F.ex
  refine FnG.of lk hcd S (fun vs H Q E h => h.1) fun A outer s H vs Q E hr hgd ⟨hl, M, ds, m, tk, a, p⟩ => ?_
  have hp : ps.length ≤ N.length := by
    have := congrArg List.length S.pre
    rw [List.length_take] at this
    omega
  exact body_run (X := cxD P w K mg base N qual (defScope st) f cdv A outer s H E) rfl m tk a (by rw [hl]; exact hp) (h cdv A outer s H E hr hgd) p
end

/-! ### calls -/
section
variable {X : Cx} {B : Bs} {W : WX} {k n : Nat} {f : Addr} {fd : FuncData} {ps ks : List Str} {sp : Sp} {E : L2.St → XK} {x : Str} {p pos : Pos} {e : Expr} {es : List Expr} {kws : List Keyword} {t tk : TA} {g : List Value → List Value → List Value} {gV : List V → List V → List V}
theorem run_fnT {pins : List (Addr × Obj)} {σ : L2.St} {H : Hp} {s : Shared} {Q : VK} {us ws : List Value} {vs zs : List V} (F : FnG X.prog X.w X.K X.mg X.base k f fd ps sp) (hr : Room k X.A) (hq : X.A.guards = some []) (hb : KBinds X.K fd ps ks g gV) (hx : PassesAt (L2.CX X.prog X.w) X σ (E σ))
    (I : Inv X pins σ H s) (r : Vals vs us) (rz : Vals zs ws) (h : sp (gV vs zs) H Q (E σ)) : wpAny (model X.prog X.w) X.A (call (.ref f) us (ks.zip ws)) (EP X pins σ Q) X.xe s := by
  have r2 := hb.rel r rz
  have hl : (g us ws).length = ps.length := by rw [← r2.length]; exact F.len _ _ _ _ h
  refine wpAny_call (codeAny_mono (F.run X.A X.stack s H ⟨us, ks.zip ws⟩ (g us ws) (gV vs zs) Q (E σ) hr hq I.env0 (hb.to s us ws I.kIn hl) r2 h) fun r s' hq => ?_)
  cases r with
  | error e => exact hx pins H s e s' I hq
  | ok fl =>
    cases fl with
    | ret u => exact I.after hq
    | next => exact False.elim hq
    | brk => exact False.elim hq
    | cont => exact False.elim hq
def tCallT (sp : Sp) (gV : List V → List V → List V) (E : L2.St → XK) (t tk : TA) : TE := fun σ H Q => t σ H fun vs H1 => tk σ H1 fun zs H2 => sp (gV vs zs) H2 Q (E σ)
/-- f(e, ..) -/
theorem pe_callT (F : FnG X.prog X.w X.K X.mg X.base k f fd ps sp) (hr : Room k X.A) (hq : X.A.guards = some []) (hg : Gl X x) (hm : X.mg x = some (.ref f)) (hk : PySem.W.keepIn X.K (.ref f) = true) (hb : KBinds X.K fd ps [] g gV) (hx : ∀ σ, PassesAt (L2.CX X.prog X.w) X σ (E σ))
    (ha : PA X (e :: es) t) (hdb : (x == ("__debug__" : Str)) = false := by decide) (he : starEach (e :: es) X.env = (false, eval e X.env) :: starEach es X.env := by rfl) (hpl : (backTo pos (starEach es X.env)).any (·.1) = false := by rfl) :
    PE X (.Call (.Name x p) (e :: es) [] pos) (tCallT sp gV E t tNil) := by
  refine ⟨fun pins s σ H Q I h => ?_⟩
  refine wpAny_Call_Name_kw (ld_glob I hg hm ?_ hdb)
  refine PySem.W.callWith_K (h₀ := X.base) I.ok.mod.kin hk (thn (ha.run pos pins s σ H _ I h) fun us s1 ⟨vs, H1, I1, r, q⟩ => ⟨I1.kIn, ?_⟩) he hpl
  exact run_fnT (ks := []) (ws := []) (zs := []) F hr hq hb (hx σ) I1 r .nil q
/-- f() -/
theorem pe_callT0 (F : FnG X.prog X.w X.K X.mg X.base k f fd ps sp) (hr : Room k X.A) (hq : X.A.guards = some []) (hg : Gl X x) (hm : X.mg x = some (.ref f)) (hk : PySem.W.keepIn X.K (.ref f) = true) (hb : KBinds X.K fd ps [] g gV) (hx : ∀ σ, PassesAt (L2.CX X.prog X.w) X σ (E σ))
    (hdb : (x == ("__debug__" : Str)) = false := by decide) : PE X (.Call (.Name x p) [] [] pos) (tCallT sp gV E tNil tNil) := by
  refine ⟨fun pins s σ H Q I h => ?_⟩
  refine wpAny_Call_Name_kw (ld_glob I hg hm ?_ hdb)
  exact PySem.W.callWith_K0 I.kIn hk (run_fnT (us := []) (vs := []) (ks := []) (ws := []) (zs := []) F hr hq hb (hx σ) I .nil .nil h)
/-- f(e, .., k = v, ..) -/
theorem pe_callTK (F : FnG X.prog X.w X.K X.mg X.base k f fd ps sp) (hr : Room k X.A) (hq : X.A.guards = some []) (hg : Gl X x) (hm : X.mg x = some (.ref f)) (hk : PySem.W.keepIn X.K (.ref f) = true) (hb : KBinds X.K fd ps ks g gV) (hx : ∀ σ, PassesAt (L2.CX X.prog X.w) X σ (E σ))
    (ha : PA X (e :: es) t) (hkw : PK X kws tk) (hall : (backToKw pos (keywordEach kws X.env)).all (·.1.isSome) = true := by rfl) (hks : (backToKw pos (keywordEach kws X.env)).filterMap (·.1) = ks := by rfl)
    (hdb : (x == ("__debug__" : Str)) = false := by decide) (he : starEach (e :: es) X.env = (false, eval e X.env) :: starEach es X.env := by rfl)
    (hpl : ((backTo pos (starEach (e :: es) X.env)).any (·.1) || (backToKw pos (keywordEach kws X.env)).any (·.1.isNone)) = false := by rfl) :
    PE X (.Call (.Name x p) (e :: es) kws pos) (tCallT sp gV E t tk) := by
  refine ⟨fun pins s σ H Q I h => ?_⟩
  refine wpAny_Call_Name_kw (ld_glob I hg hm ?_ hdb)
  refine PySem.W.callWith_KW (h₀ := X.base) I.ok.mod.kin hk hall (thn (ha.run pos pins s σ H _ I h) fun us s1 ⟨vs, H1, I1, r, q⟩ => ?_) hpl he
  refine thn (hkw.run pos pins s1 σ H1 _ I1 q) fun ws s2 ⟨zs, H2, I2, rz, q2⟩ => ⟨I2.kIn, ?_⟩
  rw [hks]
  exact run_fnT F hr hq hb (hx σ) I2 r rz q2
/-- f(k = v, ..) -/
theorem pe_callTK0 (F : FnG X.prog X.w X.K X.mg X.base k f fd ps sp) (hr : Room k X.A) (hq : X.A.guards = some []) (hg : Gl X x) (hm : X.mg x = some (.ref f)) (hk : PySem.W.keepIn X.K (.ref f) = true) (hb : KBinds X.K fd ps ks g gV) (hx : ∀ σ, PassesAt (L2.CX X.prog X.w) X σ (E σ))
    (hkw : PK X kws tk) (hall : (backToKw pos (keywordEach kws X.env)).all (·.1.isSome) = true := by rfl) (hks : (backToKw pos (keywordEach kws X.env)).filterMap (·.1) = ks := by rfl)
    (hdb : (x == ("__debug__" : Str)) = false := by decide)
    (hpl : ((backTo pos (starEach [] X.env)).any (·.1) || (backToKw pos (keywordEach kws X.env)).any (·.1.isNone)) = false := by rfl) :
    PE X (.Call (.Name x p) [] kws pos) (tCallT sp gV E tNil tk) := by
  refine ⟨fun pins s σ H Q I h => ?_⟩
  refine wpAny_Call_Name_kw (ld_glob I hg hm ?_ hdb)
  refine PySem.W.callWith_KW0 (h₀ := X.base) I.ok.mod.kin hk hall (thn (hkw.run pos pins s σ H _ I h) fun ws s2 ⟨zs, H2, I2, rz, q2⟩ => ⟨I2.kIn, ?_⟩) hpl
  rw [hks]
  exact run_fnT (us := []) (vs := []) F hr hq hb (hx σ) I2 .nil rz q2

/-! ### .. by functions on data -/
def ofFR (r : FR) (u : MO → List Sl) : R D := match r with
  | .ret d ios => .ok d (u ios)
  | .retn ds ios => .ok (.lst ds) (u ios)
  | .er x ios => .er x (u ios)
  | .no => .no
def ofFRN (r : FR) (u : MO → List Sl) : R (List D) := match r with
  | .retn ds ios => .ok ds (u ios)
  | .er x ios => .er x (u ios)
  | _ => .no
def SK (X : Cx) (B : Bs) (W : WX) (kws : List Keyword) (f : F (List D)) : Prop := PK X kws (tP B W (rhoL B) f)
theorem PK.imp {kws : List Keyword} {t u : TA} (h : PK X kws t) (k : ∀ σ H Q, u σ H Q → t σ H Q) : PK X kws u := ⟨fun pos pins s σ H Q I q => h.run pos pins s σ H Q I (k σ H Q q)⟩
theorem sk_nil : SK X B W [] nilF := PK.imp pk_nil fun σ H Q ⟨M, s, r, p⟩ => p.out r .nil
theorem sk_cons {nm : Option Str} {kpos : Pos} {f : F D} {kk : F (List D)} (ha : SE X B W e f) (hr : SK X B W kws kk) : SK X B W (⟨nm, e, kpos⟩ :: kws) (consF f kk) := by
  refine PK.imp (pk_cons ha hr) fun σ H Q ⟨M, s, r, p⟩ => ?_
  exact ⟨M, s, r, Post.bind p fun x s1 M1 H1 v r1 q1 ev1 p1 => ⟨M1, s1, r1, Post.bind p1 fun xs s2 M2 H2 vs r2 q2 ev2 p2 => p2.out r2 (.cons (q1.move r1.mo ev2) q2)⟩⟩
/-- what was tracked at p, a table of nobody's, is let go -/
theorem SR.clear {M : MS} {σ : L2.St} {H H' : Hp} {s : List Sl} {p : Addr} {xs : List V} (r : SR B M σ H s) (e : Fr0 H p) (tb : TbOk H') (hp : H' p = some (.lst xs)) : SR B M σ (delH H p) s := by
  refine r.gro ⟨fun b o h t => by rw [delH_ne (fun z => by subst z; exact e.no h t)]; exact h, fun tk q hq => ?_⟩
  obtain ⟨ps, h1, h2, h3⟩ := tk q hq
  obtain ⟨ps', g1, _⟩ := tb q hq
  refine ⟨ps, by rw [delH_ne (fun z => by rw [z, hp] at g1; cases g1)]; exact h1, h2, fun pos cv hc => ?_⟩
  obtain ⟨c, e1, e2⟩ := h3 pos cv hc
  exact ⟨c, e1, by rw [delH_ne (fun z => by rw [z] at e2; exact e.no e2 nt_ext)]; exact e2⟩
/-- a new list that a callee has handed out -/
theorem SR.got {M : MS} {σ : L2.St} {H H' : Hp} {s : List Sl} {p : Addr} {xs : List V} (r : SR B M σ H s) (e : Fr0 H p) (g : ∀ b o, H b = some o → NoTb o → H' b = some o) (tb : TbOk H') (hp : H' p = some (.lst xs)) : SR B (With M p) σ H' s :=
  ((r.clear e tb hp).laid (xs := xs) delH_same).gro ⟨fun b o h t => by
    by_cases hb : b = p
    · subst hb; rw [upd_same] at h; rw [hp]; exact h
    · rw [upd_ne hb, delH_ne hb] at h; exact g b o h t, fun _ => tb⟩
theorem gro_of {io : Bool} {vs : List V} {H H' : Hp} (hio : io = false) (st : Step (ioM io vs) H H') (tb : TbOk H') : Gro H H' := ⟨fun b o e t => st b o e (fun z => by rw [hio] at z; cases z.1) t, fun _ => tb⟩
def GD (K : PySem.W.Frag) (gV : List V → List V → List V) (gD : List D → List D → List D) : Prop := ∀ (M : MS) (H : Hp) (vs zs : List V) (ds es : List D), RpL K M H vs ds → RpL K M H zs es → RpL K M H (gV vs zs) (gD ds es)
def callF (Fn : List D → FR) (n : Nat) (gD : List D → List D → List D) (k kk : F (List D)) : F D := fun s => (k s).bind fun ds s1 => (kk s1).bind fun es s2 => if (gD ds es).length = n then ofFR (Fn (gD ds es)) (fun _ => s2) else .no
def callN (Fn : List D → FR) (n : Nat) (gD : List D → List D → List D) (k kk : F (List D)) : F (List D) := fun s => (k s).bind fun ds s1 => (kk s1).bind fun es s2 => if (gD ds es).length = n then ofFRN (Fn (gD ds es)) (fun _ => s2) else .no
theorem mok_with {M : MS} {H : Hp} {p : Addr} {xs : List V} (m : MOk M H) (h : H p = some (.lst xs)) : MOk (With M p) H := fun b z => z.elim (m b) fun z => by rw [z, h]; exact trivial
theorem call_read {Fn : List D → FR} {gD : List D → List D → List D} {ka kk : F (List D)} {σ : L2.St} {H : Hp} {Q : VK} {ta tk : TA} (hg : GD B.K gV gD)
    (ha : ∀ Q, tP B W (rhoL B) ka σ H Q → ta σ H Q) (hk : ∀ H Q, tP B W (rhoL B) kk σ H Q → tk σ H Q) (h : tP B W (rhoD B) (callF Fn n gD ka kk) σ H Q) : tCallT (spF B.K false n Fn) gV (WE W) ta tk σ H Q := by
  obtain ⟨M, s, r, p⟩ := h
  refine ha _ ⟨M, s, r, Post.bind p fun ds s1 M1 H1 vs r1 q1 ev1 p1 => hk _ _ ⟨M1, s1, r1, Post.bind p1 fun es s2 M2 H2 zs r2 q2 ev2 p2 => ?_⟩⟩
  split at p2
  case isFalse => exact p2.elim
  case isTrue hn =>
  have ql := hg M2 H2 vs zs ds es (q1.move r1.mo ev2) q2
  refine ⟨ql.length.trans hn, M2, gD ds es, r2.mo, r2.tb, ql, ?_⟩
  revert p2
  cases Fn (gD ds es) with
  | ret d ios => exact fun p2 v H' st tb _ q => p2.gro r2 (gro_of rfl st tb) q
  | retn es ios => exact fun p2 a xs H' st tb hn hp _ q => p2.gro r2 (gro_of rfl st tb) (.lst hp (r2.mo.thereF hn) (q.move (mok_with (r2.mo.gro (gro_of rfl st tb)) hp) (.sub fun _ z => .inl z)))
  | er x ios => exact fun p2 cls od H' st tb _ q => p2 cls od H' M2 (r2.gro (gro_of rfl st tb)) q (.gro (gro_of rfl st tb))
  | no => exact fun p2 => p2
theorem callN_read {Fn : List D → FR} {gD : List D → List D → List D} {ka kk : F (List D)} {σ : L2.St} {H : Hp} {Q : VK} {ta tk : TA} (hg : GD B.K gV gD)
    (ha : ∀ Q, tP B W (rhoL B) ka σ H Q → ta σ H Q) (hk : ∀ H Q, tP B W (rhoL B) kk σ H Q → tk σ H Q) (h : tN B W (callN Fn n gD ka kk) σ H Q) : tCallT (spF B.K false n Fn) gV (WE W) ta tk σ H Q := by
  obtain ⟨M, s, r, p⟩ := h
  refine ha _ ⟨M, s, r, PostN.bind p fun ds s1 M1 H1 vs r1 q1 ev1 p1 => hk _ _ ⟨M1, s1, r1, PostN.bind p1 fun es s2 M2 H2 zs r2 q2 ev2 p2 => ?_⟩⟩
  split at p2
  case isFalse => exact p2.elim
  case isTrue hn =>
  have ql := hg M2 H2 vs zs ds es (q1.move r1.mo ev2) q2
  refine ⟨ql.length.trans hn, M2, gD ds es, r2.mo, r2.tb, ql, ?_⟩
  revert p2
  cases Fn (gD ds es) with
  | ret d ios => exact fun p2 => p2.elim
  | retn es ios =>
    intro p2 a xs H' st tb hn hp _ q
    have rr := r2.got hn (gro_of rfl st tb).e tb hp
    refine p2 a H' _ rr ⟨xs, hp, .inr rfl, ?_, q, r2.noLk hn, r2.noOwF hn⟩ ⟨fun c z => z.elim .inl fun z => .inr (z ▸ hn), .gro (gro_of rfl st tb)⟩
    rcases rr.dn a (.inr rfl) with z | z
    · exact absurd (r2.up a z) (r2.mo.thereF hn)
    · exact z
  | er x ios => exact fun p2 cls od H' st tb _ q => p2 cls od H' M2 (r2.gro (gro_of rfl st tb)) q (.gro (gro_of rfl st tb))
  | no => exact fun p2 => p2
/-- the arguments in the parameters' order: us by place, ws by name, ds the defaults -/
def pickG {α : Type} (n1 n2 : Nat) (ds : List α) (idx : List Nat) (us ws : List α) : List α := if us.length = n1 ∧ ws.length = n2 then idx.filterMap (fun i => (us ++ ws ++ ds)[i]?) else []
theorem pick_paired {α β : Type} {R : α → β → Prop} {xs : List α} {ys : List β} (h : ∀ i : Nat, (∃ x y, xs[i]? = some x ∧ ys[i]? = some y ∧ R x y) ∨ (xs[i]? = none ∧ ys[i]? = none)) : ∀ idx : List Nat, Paired R (idx.filterMap fun i => xs[i]?) (idx.filterMap fun i => ys[i]?)
  | [] => .nil
  | i :: idx => by
    rcases h i with ⟨x, y, e1, e2, r⟩ | ⟨e1, e2⟩
    · rw [List.filterMap_cons_some e1, List.filterMap_cons_some e2]
      exact .cons r (pick_paired h idx)
    · rw [List.filterMap_cons_none e1, List.filterMap_cons_none e2]
      exact pick_paired h idx
theorem vals_at {xs : List V} {us : List Value} (r : Vals xs us) (i : Nat) : (∃ x y, xs[i]? = some x ∧ us[i]? = some y ∧ RelV x y) ∨ (xs[i]? = none ∧ us[i]? = none) := by
  cases e : xs[i]? with
  | none => exact .inr ⟨rfl, Vals.none_of r e⟩
  | some x =>
    obtain ⟨u, h1, h2⟩ := Vals.get r e
    exact .inl ⟨x, u, rfl, h1, h2⟩
theorem pick_vals {n1 n2 : Nat} {dvs : List V} {ds : List Value} {idx : List Nat} (hd : Vals dvs ds) {vs zs : List V} {us ws : List Value} (h1 : Vals vs us) (h2 : Vals zs ws) : Vals (pickG n1 n2 dvs idx vs zs) (pickG n1 n2 ds idx us ws) := by
  unfold pickG
  rw [h1.length, h2.length]
  split
  · exact pick_paired (vals_at ((h1.append h2).append hd)) idx
  · exact .nil
theorem RpL.filterMap {K : PySem.W.Frag} {M : MS} {H : Hp} {xs : List V} {ds : List D} (r : RpL K M H xs ds) : ∀ idx : List Nat, RpL K M H (idx.filterMap fun i => xs[i]?) (idx.filterMap fun i => ds[i]?)
  | [] => .nil
  | i :: idx => by
    cases e : xs[i]? with
    | none =>
      have e2 : ds[i]? = none := by
        have := r.length
        have := List.getElem?_eq_none_iff.mp e
        exact List.getElem?_eq_none_iff.mpr (by omega)
      rw [List.filterMap_cons_none e, List.filterMap_cons_none e2]
      exact r.filterMap idx
    | some v =>
      obtain ⟨d, e2, q⟩ := r.get' e
      rw [List.filterMap_cons_some e, List.filterMap_cons_some e2]
      exact .cons q (r.filterMap idx)
theorem pick_gd {K : PySem.W.Frag} {n1 n2 : Nat} {dvs : List V} {dds : List D} {idx : List Nat} (hd : ∀ M H, RpL K M H dvs dds) : GD K (pickG n1 n2 dvs idx) (pickG n1 n2 dds idx) := fun M H vs zs ds es h1 h2 => by
  unfold pickG
  rw [h1.length, h2.length]
  split
  · exact ((h1.append h2).append (hd M H)).filterMap idx
  · exact .nil
/-- a def that is known, in the context at hand -/
structure Dn (X : Cx) (B : Bs) (W : WX) (x : Str) (io : Bool) (n : Nat) (Fn : List D → FR) (ks : List Str) (gD : List D → List D → List D) : Prop where
  ex : ∃ (k : Nat) (f : Addr) (fd : FuncData) (ps : List Str) (g : List Value → List Value → List Value) (gV : List V → List V → List V), FnG X.prog X.w X.K X.mg X.base k f fd ps (spF B.K io n Fn) ∧ Room k X.A ∧ X.A.guards = some [] ∧ Gl X x ∧ X.mg x = some (.ref f) ∧
    PySem.W.keepIn X.K (.ref f) = true ∧ KBinds X.K fd ps ks g gV ∧ GD B.K gV gD
  tk : Takes X W
/-- a def that is known: its text, its promise -/
structure Kn (P : Program) (w : World) (K : PySem.W.Frag) (mg : Str → Option Value) (base : Heap) (x qual : Str) (st : Stmt) (k : Nat) (io : Bool) (ps : List Str) (Fn : List D → FR) : Prop where
  ex : ∃ (f : Addr) (fd : FuncData), Fun K x qual st f fd ∧ FnG P w K mg base k f fd ps (spF K io ps.length Fn) ∧ mg x = some (.ref f)
/-- how a call of it binds: n1 arguments by place, ks by name -/
theorem Fun.kb {K : PySem.W.Frag} {x qual : Str} {st : Stmt} {f : Addr} {fd : FuncData} {ps ks : List Str} {n1 : Nat} {idx : List Nat} (F : Fun K x qual st f fd) (hp : 0 < ps.length)
    (h : ∀ (kV doc pm : Value) (an : Option Addr) (cdv ct : Value) (us ws : List Value), us.length = n1 → ws.length = ks.length → bindArgs (PySem.W.fnOf x qual (defArgs st) (defBody st) (defScope st) .none kV doc pm an cdv ct) ⟨us, ks.zip ws⟩ = pure (ps.zip (idx.filterMap fun i => (us ++ ws ++ [])[i]?))) :
    KBinds K fd ps ks (pickG n1 ks.length [] idx) (pickG n1 ks.length [] idx) := by
  obtain ⟨oc, od, kV, doc, pm, an, cdv, ct, osl, rfl, lk, hcd⟩ := F.ex
  refine ⟨fun s us ws _ hl => ?_, fun h1 h2 => pick_vals .nil h1 h2⟩
  unfold pickG at hl ⊢
  split at hl
  · rename_i hc
    rw [if_pos hc]
    exact .of_eq (h kV doc pm an cdv ct us ws hc.1 hc.2)
  · exact absurd hl (by simp; omega)
theorem Kn.dn {X : Cx} {B : Bs} {W : WX} {P : Program} {w : World} {K : PySem.W.Frag} {mg : Str → Option Value} {base : Heap} {x qual : Str} {st : Stmt} {k j : Nat} {io : Bool} {ps ks : List Str} {Fn : List D → FR} {n1 : Nat} {idx : List Nat} (kn : Kn P w K mg base x qual st k io ps Fn)
    (hX : X.prog = P ∧ X.w = w ∧ X.K = K ∧ X.mg = mg ∧ X.base = base) (hK : B.K = K) (hr : Room j X.A) (hk : k ≤ j) (hq : X.A.guards = some []) (hg : Gl X x) (tk : Takes X W) (hp : 0 < ps.length)
    (h : ∀ (kV doc pm : Value) (an : Option Addr) (cdv ct : Value) (us ws : List Value), us.length = n1 → ws.length = ks.length → bindArgs (PySem.W.fnOf x qual (defArgs st) (defBody st) (defScope st) .none kV doc pm an cdv ct) ⟨us, ks.zip ws⟩ = pure (ps.zip (idx.filterMap fun i => (us ++ ws ++ [])[i]?))) :
    Dn X B W x io ps.length Fn ks (pickG n1 ks.length [] idx) := by
  obtain ⟨rfl, rfl, rfl, rfl, rfl⟩ := hX
  obtain ⟨f, fd, F, G, hm⟩ := kn.ex
  exact ⟨⟨k, f, fd, ps, _, _, hK ▸ G, hr.mono hk, hq, hg, hm, F.kp, Fun.kb F hp h, pick_gd fun _ _ => .nil⟩, tk⟩
variable {Fn : List D → FR} {gD : List D → List D → List D} {ka kk : F (List D)}
theorem se_call (D : Dn X B W x false n Fn [] gD) (ha : SA X B W (e :: es) ka) (hdb : (x == ("__debug__" : Str)) = false := by decide) (he : starEach (e :: es) X.env = (false, eval e X.env) :: starEach es X.env := by rfl) (hpl : (backTo pos (starEach es X.env)).any (·.1) = false := by rfl) :
    SE X B W (.Call (.Name x p) (e :: es) [] pos) (callF Fn n gD ka nilF) := by
  obtain ⟨⟨k, f, fd, ps, g, gV, F, hr, hq, hg, hm, hk, hb, gd⟩, tk⟩ := D
  exact PE.imp (pe_callT F hr hq hg hm hk hb (passAt tk) ha hdb he hpl) fun σ H Q p => call_read gd (fun _ q => q) (fun H Q ⟨M, s, r, p⟩ => p.out r .nil) p
theorem sn_call (D : Dn X B W x false n Fn [] gD) (ha : SA X B W (e :: es) ka) (hdb : (x == ("__debug__" : Str)) = false := by decide) (he : starEach (e :: es) X.env = (false, eval e X.env) :: starEach es X.env := by rfl) (hpl : (backTo pos (starEach es X.env)).any (·.1) = false := by rfl) :
    SN X B W (.Call (.Name x p) (e :: es) [] pos) (callN Fn n gD ka nilF) := by
  obtain ⟨⟨k, f, fd, ps, g, gV, F, hr, hq, hg, hm, hk, hb, gd⟩, tk⟩ := D
  exact PE.imp (pe_callT F hr hq hg hm hk hb (passAt tk) ha hdb he hpl) fun σ H Q p => callN_read gd (fun _ q => q) (fun H Q ⟨M, s, r, p⟩ => p.out r .nil) p
theorem se_call0 (D : Dn X B W x false n Fn [] gD) (hdb : (x == ("__debug__" : Str)) = false := by decide) : SE X B W (.Call (.Name x p) [] [] pos) (callF Fn n gD nilF nilF) := by
  obtain ⟨⟨k, f, fd, ps, g, gV, F, hr, hq, hg, hm, hk, hb, gd⟩, tk⟩ := D
  exact PE.imp (pe_callT0 F hr hq hg hm hk hb (passAt tk) hdb) fun σ H Q p => call_read gd (fun Q ⟨M, s, r, p⟩ => p.out r .nil) (fun H Q ⟨M, s, r, p⟩ => p.out r .nil) p
theorem se_callK (D : Dn X B W x false n Fn ks gD) (ha : SA X B W (e :: es) ka) (hkw : SK X B W kws kk) (hall : (backToKw pos (keywordEach kws X.env)).all (·.1.isSome) = true := by rfl) (hks : (backToKw pos (keywordEach kws X.env)).filterMap (·.1) = ks := by rfl)
    (hdb : (x == ("__debug__" : Str)) = false := by decide) (he : starEach (e :: es) X.env = (false, eval e X.env) :: starEach es X.env := by rfl)
    (hpl : ((backTo pos (starEach (e :: es) X.env)).any (·.1) || (backToKw pos (keywordEach kws X.env)).any (·.1.isNone)) = false := by rfl) : SE X B W (.Call (.Name x p) (e :: es) kws pos) (callF Fn n gD ka kk) := by
  obtain ⟨⟨k, f, fd, ps, g, gV, F, hr, hq, hg, hm, hk, hb, gd⟩, tk⟩ := D
  exact PE.imp (pe_callTK F hr hq hg hm hk hb (passAt tk) ha hkw hall hks hdb he hpl) fun σ H Q p => call_read gd (fun _ q => q) (fun _ _ q => q) p
theorem se_callK0 (D : Dn X B W x false n Fn ks gD) (hkw : SK X B W kws kk) (hall : (backToKw pos (keywordEach kws X.env)).all (·.1.isSome) = true := by rfl) (hks : (backToKw pos (keywordEach kws X.env)).filterMap (·.1) = ks := by rfl)
    (hdb : (x == ("__debug__" : Str)) = false := by decide)
    (hpl : ((backTo pos (starEach [] X.env)).any (·.1) || (backToKw pos (keywordEach kws X.env)).any (·.1.isNone)) = false := by rfl) : SE X B W (.Call (.Name x p) [] kws pos) (callF Fn n gD nilF kk) := by
  obtain ⟨⟨k, f, fd, ps, g, gV, F, hr, hq, hg, hm, hk, hb, gd⟩, tk⟩ := D
  exact PE.imp (pe_callTK0 F hr hq hg hm hk hb (passAt tk) hkw hall hks hdb hpl) fun σ H Q p => call_read gd (fun Q ⟨M, s, r, p⟩ => p.out r .nil) (fun _ _ q => q) p
/-- what may be changed stands at slot i -/
def mutAt (s : List Sl) (i : Nat) : Bool := match s[i]? with
  | some (.ow _) => true
  | some (.io _) => true
  | _ => false
theorem mutAt.run {B : Bs} {M : MS} {σ : L2.St} {H : Hp} {s : List Sl} {i : Nat} (r : SR B M σ H s) (h : mutAt s i = true) : ∃ a, σ[i]? = some (some (.ref a)) := by
  unfold mutAt at h
  split at h
  · rename_i m e
    obtain ⟨a, xs, e1, _⟩ := r.ow i _ e
    exact ⟨a, e1⟩
  · rename_i m e
    obtain ⟨z, a, xs, p, e1, _⟩ := r.io i _ e
    exact ⟨a, z ▸ e1⟩
  · cases h
/-- f(own, e, ..): the list, the instance of one's own at slot i may be changed by f -/
def callIoF (Fn : List D → FR) (n : Nat) (i : Nat) (k : F (List D)) : F D := fun s => if mutAt s i = true then (k s).bind fun ds s1 => if ds.length + 1 = n then match s1[i]? with
    | some (.ow as) => ofFR (Fn (as.d :: ds)) fun ios => s1.set i (.ow ios)
    | some (.io as) => ofFR (Fn (as.d :: ds)) fun ios => s1.set i (.io ios)
    | _ => .no
    else .no
  else .no
theorem pick_range {α : Type} {n : Nat} {us : List α} (h : us.length = n) : pickG n 0 [] (List.range n) us [] = us := by
  unfold pickG
  rw [if_pos ⟨h, rfl⟩, List.append_nil, List.append_nil]
  subst h
  have key : ∀ (m : Nat), m ≤ us.length → (List.range m).filterMap (fun i => us[i]?) = us.take m := fun m => by
    induction m with
    | zero => intro _; rfl
    | succ m ih =>
      intro hm
      have hlt : m < us.length := hm
      rw [List.range_succ, List.filterMap_append, ih (by omega), List.filterMap_cons_some (List.getElem?_eq_getElem hlt), List.take_add_one, List.getElem?_eq_getElem hlt]
      rfl
  rw [key us.length (Nat.le_refl _), List.take_length]
structure DnIo (X : Cx) (B : Bs) (W : WX) (x : Str) (n : Nat) (Fn : List D → FR) : Prop where
  ex : ∃ (k : Nat) (f : Addr) (fd : FuncData) (ps : List Str), FnG X.prog X.w X.K X.mg X.base k f fd ps (spF B.K true n Fn) ∧ Room k X.A ∧ X.A.guards = some [] ∧ Gl X x ∧ X.mg x = some (.ref f) ∧ PySem.W.keepIn X.K (.ref f) = true ∧
    KBinds X.K fd ps [] (pickG n 0 [] (List.range n)) (pickG n 0 [] (List.range n))
  tk : Takes X W
theorem Kn.dnIo {X : Cx} {B : Bs} {W : WX} {P : Program} {w : World} {K : PySem.W.Frag} {mg : Str → Option Value} {base : Heap} {x qual : Str} {st : Stmt} {k j : Nat} {ps : List Str} {Fn : List D → FR} (kn : Kn P w K mg base x qual st k true ps Fn)
    (hX : X.prog = P ∧ X.w = w ∧ X.K = K ∧ X.mg = mg ∧ X.base = base) (hK : B.K = K) (hr : Room j X.A) (hk : k ≤ j) (hq : X.A.guards = some []) (hg : Gl X x) (tk : Takes X W) (hp : 0 < ps.length)
    (h : ∀ (kV doc pm : Value) (an : Option Addr) (cdv ct : Value) (us ws : List Value), us.length = ps.length → ws.length = ([] : List Str).length → bindArgs (PySem.W.fnOf x qual (defArgs st) (defBody st) (defScope st) .none kV doc pm an cdv ct) ⟨us, ([] : List Str).zip ws⟩ = pure (ps.zip ((List.range ps.length).filterMap fun i => (us ++ ws ++ [])[i]?))) :
    DnIo X B W x ps.length Fn := by
  obtain ⟨rfl, rfl, rfl, rfl, rfl⟩ := hX
  obtain ⟨f, fd, F, G, hm⟩ := kn.ex
  exact ⟨⟨k, f, fd, ps, hK ▸ G, hr.mono hk, hq, hg, hm, F.kp, Fun.kb (ks := []) F hp h⟩, tk⟩
theorem se_callIo (i : Nat) {y : Str} {py : Pos} (D : DnIo X B W x n Fn) (ha : SA X B W es ka) (hst : starEach (.Name y py :: es) X.env = (false, eval (.Name y py) X.env) :: starEach es X.env := by rfl) (hpl : (backTo pos (starEach es X.env)).any (·.1) = false := by rfl)
    (hN : X.N[i]? = some y := by rfl) (hv : Vis X.env.scope y := by first | exact Or.inl rfl | exact Or.inr (Or.inl rfl) | exact Or.inr (Or.inr rfl))
    (hd : (y == ("__debug__" : Str)) = false := by decide) (hcd : (y == ("__classdict__" : Str)) = false := by decide) (hdb : (x == ("__debug__" : Str)) = false := by decide) :
    SE X B W (.Call (.Name x p) (.Name y py :: es) [] pos) (callIoF Fn n i ka) := by
  obtain ⟨⟨k, f, fd, ps, F, hr, hq, hg, hm, hk, hb⟩, tk⟩ := D
  refine PE.imp (pe_callT F hr hq hg hm hk hb (passAt tk) (pa_cons (pe_var hN hv hd hcd) ha hst) hdb hst hpl) fun σ H Q ⟨M, s, r, p⟩ => ?_
  unfold callIoF at p
  split at p
  case isFalse => exact p.elim
  case isTrue e0 =>
    obtain ⟨a, e1⟩ := mutAt.run r e0
    refine ⟨_, e1, M, s, r, Post.bind p fun ds s1 M1 H1 vs r1 q1 ev1 p1 => ?_⟩
    split at p1
    case isFalse => exact p1.elim
    case isTrue hn =>
    have hvl : (V.ref a :: vs).length = n := by rw [List.length_cons, q1.length]; exact hn
    show spF B.K true n Fn (pickG n 0 [] (List.range n) (V.ref a :: vs) []) H1 Q (WE W σ)
    rw [pick_range hvl]
    refine ⟨hvl, ?_⟩
    -- the slot as it stands now
    have key : ∀ (io : Bool) (as : MO), s1[i]? = some (if io then Sl.io as else Sl.ow as) → Post B W (rhoD B) M1 H1 σ (ofFR (Fn (as.d :: ds)) fun ios => s1.set i (if io then Sl.io ios else Sl.ow ios)) Q →
        ∃ M' ds', MOk M' H1 ∧ TbOk H1 ∧ ArgR B.K M' H1 true (.ref a :: vs) ds' ∧ PostF B.K M' H1 true (.ref a :: vs) (Fn ds') Q (WE W σ) := fun io as hs p2 => by
      have hx : ∃ xs, H1 a = some xs ∧ M1 a ∧ MR B.K M1 H1 xs as := by
        cases io with
        | true =>
          obtain ⟨z, a', xs, h2, h3, h4, h5, h6⟩ := r1.io i as hs
          rw [← z, e1] at h3
          cases h3
          exact ⟨xs, h4, h5, h6⟩
        | false =>
          obtain ⟨a', xs, h3, h4, h5, h6, h7⟩ := r1.ow i as hs
          rw [e1] at h3
          cases h3
          exact ⟨xs, h4, h5, h7⟩
      obtain ⟨xs, hx1, hx2, hx3⟩ := hx
      refine ⟨M1, as.d :: ds, r1.mo, r1.tb, ⟨a, xs, as, vs, ds, rfl, rfl, hx1, hx2, hx3, q1⟩, ?_⟩
      have stp : ∀ {H' : Hp}, Step (ioM true (.ref a :: vs)) H1 H' → Step (fun b => b = a) H1 H' := fun {H'} st b o e n t => st b o e (fun ⟨_, r', z⟩ => n (by cases z; rfl)) t
      revert p2
      cases Fn (as.d :: ds) with
      | ret d ios =>
        intro p2 v H' st tb ir q
        obtain ⟨a2, r2, ys, h1, h2, h3⟩ := ir rfl
        cases h1
        obtain ⟨rr, ev⟩ := r1.mutated (io := io) hs e1 h2 h3 (stp st) tb
        exact p2 v H' M1 rr q ev
      | retn es ios =>
        intro p2 b ys H' st tb hn2 hp ir q
        obtain ⟨a2, r2, zs, h1, h2, h3⟩ := ir rfl
        cases h1
        have ne : a ≠ b := fun z => hn2.no (z ▸ hx1) hx3.noTb
        have rl := (r1.clear hn2 tb hp).laid (xs := ys) delH_same
        have st2 : Step (fun c => c = a) (upd (delH H1 b) b (.lst ys)) H' := fun c o e n t => by
          by_cases hc : c = b
          · subst hc; rw [upd_same] at e; rw [hp]; exact e
          · rw [upd_ne hc, delH_ne hc] at e; exact stp st c o e n t
        obtain ⟨rr, ev⟩ := rl.mutated (io := io) hs e1 h2 h3 st2 tb
        have nb : ∀ (j : Nat) (fs : MO), (s1.set i (if io = true then Sl.io ios else Sl.ow ios))[j]? = some (.ow fs) → σ[j]? ≠ some (some (.ref b)) := fun j fs h z => by
          rcases nth_set h with ⟨rfl, _⟩ | ⟨_, h⟩
          · rw [e1] at z
            cases z
            exact ne rfl
          · exact r1.noOwF hn2 j fs h z
        have h0 : Fr0 B.H0 b := by
          rcases rr.dn b (.inr rfl) with z | z
          · exact absurd (r1.up b z) (r1.mo.thereF hn2)
          · exact z
        -- let the new list go
        have fr : SR B M1 σ H' (s1.set i (if io = true then Sl.io ios else Sl.ow ios)) := by
          have sb : Ev (With M1 b) H' M1 H' := .sub fun _ z => .inl z
          exact {
            va := fun j d e => let ⟨v, h1, q⟩ := rr.va j d e; ⟨v, h1, q.move rr.mo sb⟩
            ow := fun j d e => by
              obtain ⟨c, zs, h1, h2, h3, h4, h5⟩ := rr.ow j d e
              refine ⟨c, zs, h1, h2, h3.resolve_right fun z => nb j d e (z ▸ h1), h4, h5.move rr.mo sb⟩
            io := fun j d e => by
              obtain ⟨z, c, zs, h1, h2, h3, h4, h5⟩ := rr.io j d e
              refine ⟨z, c, zs, h1, h2, h3, h4.resolve_right fun z2 => ?_, h5.move rr.mo sb⟩
              rw [z2] at h1
              exact (r1.mo.thereF hn2) (r1.up b (rr.pa b h1).1)
            pa := rr.pa
            ne := rr.ne
            mo := fun c z => rr.mo c (.inl z)
            up := r1.up
            dn := r1.dn
            st := rr.st
            bm := rr.bm
            lk := fun c o e => by
              obtain ⟨h1, h2, h3⟩ := rr.lk c o e
              exact ⟨(r1.lk c o e).1, h2, h3⟩
            len := rr.len
            tb := rr.tb }
        refine p2 (.ref b) H' M1 fr (.lst hp (r1.mo.thereF hn2) (q.move rr.mo (.sub fun _ z => .inl z))) ⟨fun _ z => .inl z, fun c o e n t => st c o e (fun ⟨_, r', z⟩ => n (by cases z; exact hx2)) t⟩
      | er x ios =>
        intro p2 cls od H' st tb ir q
        obtain ⟨a2, r2, ys, h1, h2, h3⟩ := ir rfl
        cases h1
        obtain ⟨rr, ev⟩ := r1.mutated (io := io) hs e1 h2 h3 (stp st) tb
        exact p2 cls od H' M1 rr q ev
      | no => exact fun p2 => p2
    split at p1
    · rename_i as hs
      exact key false as hs p1
    · rename_i as hs
      exact key true as hs p1
    · exact p1.elim
end
end Fx

set_option Elab.async false
set_option linter.all false
set_option maxRecDepth 100000
namespace Fx
variable [Tbl]
open PySem L2 PyProof.Rows
/-! ### data as the library has it -/
mutual
def toPy : D → Option PyData
  | .non => some .none
  | .bl b => some (.bool b)
  | .int i => some (.int i)
  | .str x => some (.str x)
  | .tup xs => (toPyL xs).map .tuple
  | .lst xs => (toPyL xs).map .list
  | _ => none
def toPyL : List D → Option (List PyData)
  | [] => some []
  | x :: xs => match toPy x, toPyL xs with
    | some d, some ds => some (d :: ds)
    | _, _ => none
end
mutual
theorem Rp.dp {K : PySem.W.Frag} {M : MS} {H : Hp} : ∀ {v : V} {d : D} {p : PyData}, Rp K M H v d → toPy d = some p → Dp K H v p
  | _, _, _, .non, e => by unfold toPy at e; cases e; exact .non
  | _, _, _, .bl b, e => by unfold toPy at e; cases e; exact .bl b
  | _, _, _, .int i, e => by unfold toPy at e; cases e; exact .int i
  | _, _, _, .str x, e => by unfold toPy at e; cases e; exact .str x
  | _, _, _, .ty n, e => by unfold toPy at e; cases e
  | _, _, _, .ref a, e => by unfold toPy at e; cases e
  | _, .lst xs, _, .lst h n l, e => by
    unfold toPy at e
    cases h2 : toPyL xs with
    | none => rw [h2] at e; cases e
    | some ps => rw [h2] at e; cases e; exact .lst (.of h) (RpL.dp l h2)
  | _, _, _, .fz h n l, e => by unfold toPy at e; cases e
  | _, _, _, .fzK h l, e => by unfold toPy at e; cases e
  | _, .tup xs, _, .tup h l, e => by
    unfold toPy at e
    cases h2 : toPyL xs with
    | none => rw [h2] at e; cases e
    | some ps => rw [h2] at e; cases e; exact .tup (.of h) (RpL.dp l h2)
  | _, .tup xs, _, .tupK h l, e => by
    unfold toPy at e
    cases h2 : toPyL xs with
    | none => rw [h2] at e; cases e
    | some ps => rw [h2] at e; cases e; exact .tup (h.sq H) (RpL.dp l h2)
  | _, _, _, .ins h n c q l, e => by unfold toPy at e; cases e
theorem RpL.dp {K : PySem.W.Frag} {M : MS} {H : Hp} : ∀ {vs : List V} {ds : List D} {ps : List PyData}, RpL K M H vs ds → toPyL ds = some ps → DpAll K H vs ps
  | _, _, _, .nil, e => by unfold toPyL at e; cases e; exact .nil
  | _, d :: ds, _, .cons h t, e => by
    unfold toPyL at e
    split at e
    · rename_i h1 h2
      cases e
      exact .cons (Rp.dp h h1) (RpL.dp t h2)
    · cases e
end

/-! ### arithmetic -/
theorem OpR.or {X : Cx} {f : Value → Value → Sem Value} {r r' : R2} (h : OpR X f r) (h' : OpR X f r') : OpR X f (fun x y H Q => r x y H Q ∨ r' x y H Q) := fun pins s σ H x y v u Q I rx ry q => q.elim (h pins s σ H x y v u Q I rx ry) (h' pins s σ H x y v u Q I rx ry)
theorem CallR.or {X : Cx} {f : Value} {r r' : List V → Hp → VK → Prop} (h : CallR X f r) (h' : CallR X f r') : CallR X f (fun xs H Q => r xs H Q ∨ r' xs H Q) := fun pins s σ H xs us Q I rs q => q.elim (h pins s σ H xs us Q I rs) (h' pins s σ H xs us Q I rs)
theorem Op2.or {K : PySem.W.Frag} {r r' : R2} {o : D → D → Option D} (h : ∀ (x y d : D), o x y = some d → ∀ (M : MS) (H : Hp) (v u : V) (Q : VK), MOk M H → Rp K M H v x → Rp K M H u y → (∀ w H', Same H H' → Rp K M H' w d → Q w H') → r v u H Q ∨ r' v u H Q) : Op2 K (fun x y H Q => r x y H Q ∨ r' x y H Q) o := h
theorem same_rfl {H : Hp} : Same H H := fun _ _ h => h
section
variable {X : Cx} {K : PySem.W.Frag}
def addD : D → D → Option D
  | .int i, .int j => some (.int (i + j))
  | .str a, .str b => if a.length + b.length ≤ sizeLine then some (.str (a ++ b)) else none
  | .lst xs, .lst ys => if xs.length + ys.length ≤ sizeLine then some (.lst (xs ++ ys)) else none
  | .tup xs, .tup ys => if xs.length + ys.length ≤ sizeLine then some (.tup (xs ++ ys)) else none
  | _, _ => none
theorem op_addD : ∃ r, OpR X (binaryOp .Add) r ∧ Op2 X.K r addD := by
  refine ⟨_, OpR.or op_add (OpR.or op_add_str (OpR.or op_cat op_catA)), fun x y d e M H v u Q m qx qy k => ?_⟩
  unfold addD at e
  split at e
  · cases e
    cases qx
    cases qy
    exact .inl ⟨_, _, rfl, rfl, k _ H same_rfl (.int _)⟩
  · split at e
    · rename_i hz
      cases e
      cases qx
      cases qy
      exact .inr (.inl ⟨_, _, rfl, rfl, hz, k _ H same_rfl (.str _)⟩)
    · cases e
  · split at e
    · rename_i hz
      cases e
      cases qx with
      | lst h1 n1 l1 =>
        cases qy with
        | lst h2 n2 l2 => exact .inr (.inr (.inl ⟨_, _, _, _, rfl, rfl, h1, h2, by rw [l1.length, l2.length]; exact hz, fun p hp => k _ _ (same_upd hp) (new_lst m hp (l1.append l2))⟩))
    · cases e
  · split at e
    · rename_i xs ys hz
      cases e
      obtain ⟨a, vs, rfl, hq1, l1⟩ := qx.seqT
      obtain ⟨b, ws, rfl, hq2, l2⟩ := qy.seqT
      refine .inr (.inr (.inr ⟨a, b, vs, ws, rfl, rfl, hq1, hq2, by rw [l1.length, l2.length]; exact hz, fun z => ?_, fun _ z => ?_, fun _ _ p hp => k _ _ (same_upd hp) (new_tup m hp (l1.append l2))⟩))
      · have : xs = [] := by
          have := l1.length
          rw [z] at this
          cases xs with
          | nil => rfl
          | cons _ _ => simp at this
        subst this
        exact k _ H same_rfl qy
      · have : ys = [] := by
          have := l2.length
          rw [z] at this
          cases ys with
          | nil => rfl
          | cons _ _ => simp at this
        subst this
        exact k _ H same_rfl (by rw [List.append_nil]; exact qx)
    · cases e
  · cases e
def subD : D → D → Option D
  | .int i, .int j => some (.int (i - j))
  | _, _ => none
theorem op_subD : ∃ r, OpR X (binaryOp .Sub) r ∧ Op2 X.K r subD := by
  refine ⟨_, op_sub, fun x y d e M H v u Q m qx qy k => ?_⟩
  unfold subD at e
  split at e
  · cases e
    cases qx
    cases qy
    exact ⟨_, _, rfl, rfl, k _ H same_rfl (.int _)⟩
  · cases e
instance {i j : Int} : Decidable (CMul i j) := by unfold CMul; exact inferInstance
instance {i j : Int} : Decidable (CMulW i j) := by unfold CMulW; exact inferInstance
def mulD : D → D → Option D
  | .int i, .int j => if CMul i j ∨ CMulW i j then some (.int (i * j)) else none
  | .lst xs, .int k => if -(2 ^ 63) ≤ k ∧ k < 2 ^ 63 ∧ xs.length * k.toNat ≤ sizeLine then some (.lst (List.replicate k.toNat xs).flatten) else none
  | _, _ => none
theorem RpL.rep {M : MS} {H : Hp} {vs : List V} {ds : List D} (l : RpL K M H vs ds) : ∀ n, RpL K M H (List.replicate n vs).flatten (List.replicate n ds).flatten
  | 0 => .nil
  | n + 1 => by
    rw [List.replicate_succ, List.replicate_succ, List.flatten_cons, List.flatten_cons]
    exact l.append (RpL.rep l n)
theorem op_mulD : ∃ r, OpR X (binaryOp .Mult) r ∧ Op2 X.K r mulD := by
  refine ⟨_, OpR.or op_mul (OpR.or op_mulW op_rep), fun x y d e M H v u Q m qx qy k => ?_⟩
  unfold mulD at e
  split at e
  · split at e
    · rename_i hc
      cases e
      cases qx
      cases qy
      rcases hc with hc | hc
      · exact .inl ⟨_, _, rfl, rfl, hc, k _ H same_rfl (.int _)⟩
      · exact .inr (.inl ⟨_, _, rfl, rfl, hc, k _ H same_rfl (.int _)⟩)
    · cases e
  · split at e
    · rename_i hc
      cases e
      cases qy
      cases qx with
      | lst h1 n1 l1 => exact .inr (.inr ⟨_, _, _, rfl, rfl, h1, hc.1, hc.2.1, by rw [l1.length]; exact hc.2.2, fun p hp => k _ _ (same_upd hp) (new_lst m hp (RpL.rep l1 _))⟩)
    · cases e
  · cases e
def fdivD : D → D → Option D
  | .int i, .int j => if 0 < j ∧ j.natAbs.log2 < 9000 then some (.int (i / j)) else none
  | _, _ => none
theorem op_fdivD : ∃ r, OpR X (binaryOp .FloorDiv) r ∧ Op2 X.K r fdivD := by
  refine ⟨_, op_fdivW, fun x y d e M H v u Q m qx qy k => ?_⟩
  unfold fdivD at e
  split at e
  · split at e
    · rename_i hc
      cases e
      cases qx
      cases qy
      exact ⟨_, _, rfl, rfl, hc, k _ H same_rfl (.int _)⟩
    · cases e
  · cases e
def modD : D → D → Option D
  | .int i, .int j => if 0 < j then some (.int (i % j)) else none
  | _, _ => none
theorem op_modD : ∃ r, OpR X (binaryOp .Mod) r ∧ Op2 X.K r modD := by
  refine ⟨_, op_mod, fun x y d e M H v u Q m qx qy k => ?_⟩
  unfold modD at e
  split at e
  · split at e
    · rename_i hc
      cases e
      cases qx
      cases qy
      exact ⟨_, _, rfl, rfl, hc, k _ H same_rfl (.int _)⟩
    · cases e
  · cases e
def powD : D → D → Option D
  | .int i, .int j => if 0 ≤ j ∧ j ≤ 1000000 ∧ i.natAbs < 2 ^ 64 then some (.int (i ^ j.toNat)) else none
  | _, _ => none
theorem op_powD : ∃ r, OpR X (binaryOp .Pow) r ∧ Op2 X.K r powD := by
  refine ⟨_, op_pow, fun x y d e M H v u Q m qx qy k => ?_⟩
  unfold powD at e
  split at e
  · split at e
    · rename_i hc
      cases e
      cases qx
      cases qy
      exact ⟨_, _, rfl, rfl, hc, k _ H same_rfl (.int _)⟩
    · cases e
  · cases e
def negD : D → Option D
  | .int i => some (.int (-i))
  | _ => none
theorem op_negD : ∃ r, UnR X (unaryOp .USub) r ∧ Op1 X.K r negD := by
  refine ⟨_, un_neg, fun x d e M H v Q m qx k => ?_⟩
  unfold negD at e
  split at e
  · cases e
    cases qx
    exact ⟨_, rfl, k _ H same_rfl (.int _)⟩
  · cases e

/-! ### comparisons -/
def cmpD (p : Int → Int → Bool) : D → D → Option D
  | .int i, .int j => some (.bl (p i j))
  | _, _ => none
theorem cmp_op {p : Int → Int → Bool} : Op2 K (rI0 fun i j => .bl (p i j)) (cmpD p) := fun x y d e M H v u Q m qx qy k => by
  unfold cmpD at e
  split at e
  · cases e
    cases qx
    cases qy
    exact ⟨_, _, rfl, rfl, k _ H same_rfl (.bl _)⟩
  · cases e
abbrev ltD := cmpD fun i j => decide (i < j)
abbrev leD := cmpD fun i j => decide (i ≤ j)
abbrev gtD := cmpD fun i j => decide (j < i)
abbrev geD := cmpD fun i j => decide (j ≤ i)
theorem op_ltD : ∃ r, OpR X (compareOp .Lt) r ∧ Op2 X.K r ltD := ⟨_, op_lt, cmp_op⟩
theorem op_leD : ∃ r, OpR X (compareOp .LtE) r ∧ Op2 X.K r leD := ⟨_, op_le, cmp_op⟩
theorem op_gtD : ∃ r, OpR X (compareOp .Gt) r ∧ Op2 X.K r gtD := ⟨_, op_gt, cmp_op⟩
theorem op_geD : ∃ r, OpR X (compareOp .GtE) r ∧ Op2 X.K r geD := ⟨_, op_ge, cmp_op⟩
def eqG (x y : D) : Option D := match toPy x, toPy y with
  | some a, some b => if SeqAt.shaped a = true ∧ SeqAt.shaped b = true then some (.bl (PyData.eqv a b)) else none
  | _, _ => none
def neG (x y : D) : Option D := match toPy x, toPy y with
  | some a, some b => if SeqAt.shaped a = true ∧ SeqAt.shaped b = true then some (.bl (!PyData.eqv a b)) else none
  | _, _ => none
def eqD : D → D → Option D
  | .int i, .int j => some (.bl (decide (i = j)))
  | .str x, .str y => some (.bl (decide (x = y)))
  | x, y => eqG x y
def neD : D → D → Option D
  | .int i, .int j => some (.bl (!decide (i = j)))
  | .str x, .str y => some (.bl (!decide (x = y)))
  | x, y => neG x y
theorem decInt {i j : Int} : decide (V.int i = V.int j) = decide (i = j) := decide_eq_decide.mpr ⟨V.int.inj, fun h => h ▸ rfl⟩
theorem decStr {i j : Str} : decide (V.str i = V.str j) = decide (i = j) := decide_eq_decide.mpr ⟨V.str.inj, fun h => h ▸ rfl⟩
theorem op_eqDD (hu : X.A.units + 64 < cLine) : ∃ r, OpR X (compareOp .Eq) r ∧ Op2 X.K r eqD := by
  refine ⟨_, OpR.or op_eq (op_eqD hu), fun x y d e M H v u Q m qx qy k => ?_⟩
  unfold eqD at e
  split at e
  · cases e
    cases qx
    cases qy
    exact .inl ⟨rfl, by rw [decInt]; exact k _ H same_rfl (.bl _)⟩
  · cases e
    cases qx
    cases qy
    exact .inl ⟨rfl, by rw [decStr]; exact k _ H same_rfl (.bl _)⟩
  · unfold eqG at e
    split at e
    · split at e
      · rename_i a b ha hb hc
        cases e
        exact .inr ⟨a, b, qx.dp ha, qy.dp hb, hc.1, hc.2, k _ H same_rfl (.bl _)⟩
      · cases e
    · cases e
theorem op_neDD (hu : X.A.units + 64 < cLine) : ∃ r, OpR X (compareOp .NotEq) r ∧ Op2 X.K r neD := by
  refine ⟨_, OpR.or op_ne (op_neD hu), fun x y d e M H v u Q m qx qy k => ?_⟩
  unfold neD at e
  split at e
  · cases e
    cases qx
    cases qy
    exact .inl ⟨rfl, by rw [decInt]; exact k _ H same_rfl (.bl _)⟩
  · cases e
    cases qx
    cases qy
    exact .inl ⟨rfl, by rw [decStr]; exact k _ H same_rfl (.bl _)⟩
  · unfold neG at e
    split at e
    · split at e
      · rename_i a b ha hb hc
        cases e
        exact .inr ⟨a, b, qx.dp ha, qy.dp hb, hc.1, hc.2, k _ H same_rfl (.bl _)⟩
      · cases e
    · cases e
/-- is None; is True -/
def isNonD : D → Bool
  | .non => true
  | _ => false
theorem Rp.non_iff {M : MS} {H : Hp} {v : V} {d : D} (q : Rp K M H v d) : decide (v = .non) = isNonD d := by cases q <;> rfl
def isD : D → D → Option D
  | x, .non => some (.bl (isNonD x))
  | .bl a, .bl b => some (.bl (decide (a = b)))
  | _, _ => none
def isNotD : D → D → Option D
  | x, .non => some (.bl (!isNonD x))
  | .bl a, .bl b => some (.bl (!decide (a = b)))
  | _, _ => none
theorem op_isD : ∃ r, OpR X (compareOp .Is) r ∧ Op2 X.K r isD := by
  refine ⟨_, OpR.or op_isN op_is_bl, fun x y d e M H v u Q m qx qy k => ?_⟩
  unfold isD at e
  split at e
  · cases e
    cases qy
    exact .inl ⟨rfl, by rw [qx.non_iff]; exact k _ H same_rfl (.bl _)⟩
  · cases e
    cases qx
    cases qy
    exact .inr ⟨_, _, rfl, rfl, k _ H same_rfl (.bl _)⟩
  · cases e
theorem op_isNotD : ∃ r, OpR X (compareOp .IsNot) r ∧ Op2 X.K r isNotD := by
  refine ⟨_, OpR.or op_notN op_isnot_bl, fun x y d e M H v u Q m qx qy k => ?_⟩
  unfold isNotD at e
  split at e
  · cases e
    cases qy
    exact .inl ⟨rfl, by rw [qx.non_iff]; exact k _ H same_rfl (.bl _)⟩
  · cases e
    cases qx
    cases qy
    exact .inr ⟨_, _, rfl, rfl, k _ H same_rfl (.bl _)⟩
  · cases e
/-- in -/
def flatD : D → Bool
  | .non => true
  | .bl _ => true
  | .int _ => true
  | .str _ => true
  | _ => false
def eqFD : D → D → Bool
  | .non, .non => true
  | .bl a, .bl b => a == b
  | .bl a, .int b => (if a then 1 else 0) == b
  | .int a, .bl b => a == (if b then 1 else 0)
  | .int a, .int b => a == b
  | .str a, .str b => a == b
  | _, _ => false
theorem Rp.flat {M : MS} {H : Hp} {v : V} {d : D} (q : Rp K M H v d) (h : flatD d = true) : flatV v = true := by cases q <;> first | rfl | exact h
theorem RpL.flat {M : MS} {H : Hp} : ∀ {vs : List V} {ds : List D}, RpL K M H vs ds → ds.all flatD = true → vs.all flatV = true
  | _, _, .nil, _ => rfl
  | _, _, .cons q t, h => by
    rw [List.all_cons, Bool.and_eq_true] at h
    rw [List.all_cons, q.flat h.1, t.flat h.2]
    rfl
theorem Rp.eqF {M : MS} {H : Hp} {v u : V} {d e : D} (q : Rp K M H v d) (p : Rp K M H u e) (h1 : flatD d = true) (h2 : flatD e = true) : eqV v u = eqFD d e := by
  cases q <;> first | (cases p <;> first | rfl | exact absurd h2 Bool.false_ne_true) | exact absurd h1 Bool.false_ne_true
theorem RpL.inF {M : MS} {H : Hp} {x : V} {d : D} (q : Rp K M H x d) (hd : flatD d = true) : ∀ {vs : List V} {ds : List D}, RpL K M H vs ds → ds.all flatD = true → inV x vs = ds.any (fun y => eqFD y d)
  | _, _, .nil, _ => rfl
  | v :: vs, e :: ds, .cons p t, h => by
    rw [List.all_cons, Bool.and_eq_true] at h
    have ih := RpL.inF q hd t h.2
    unfold inV at ih ⊢
    rw [List.any_cons, List.any_cons, ih, p.eqF q h.1 hd]
def inD (neg : Bool) : D → D → Option D
  | x, .tup ds => if flatD x = true ∧ ds.all flatD = true then some (.bl (if neg then !(ds.any fun y => eqFD y x) else ds.any fun y => eqFD y x)) else none
  | x, .lst ds => if flatD x = true ∧ ds.all flatD = true then some (.bl (if neg then !(ds.any fun y => eqFD y x) else ds.any fun y => eqFD y x)) else none
  | .str ⟨c⟩, .str z => match c.toList with
    | [c] => some (.bl (if neg then !decide (c ∈ z.cps.toList) else decide (c ∈ z.cps.toList)))
    | _ => none
  | _, _ => none
theorem inD_op {neg : Bool} {r : R2} (hr : ∀ (c : Nat) (z : Str) (H : Hp) (Q : VK), Q (.bl (if neg then !decide (c ∈ z.cps.toList) else decide (c ∈ z.cps.toList))) H → r (.str ⟨#[c]⟩) (.str z) H Q) : Op2 K (fun x y H Q => rIn K neg x y H Q ∨ r x y H Q) (inD neg) := fun x y d e M H v u Q m qx qy k => by
  unfold inD at e
  split at e
  · split at e
    · rename_i ds hc
      cases e
      obtain ⟨a, vs, rfl, hq, l⟩ := qy.seqT
      exact .inl ⟨a, vs, rfl, .inr hq, qx.flat hc.1, l.flat hc.2, by rw [RpL.inF qx hc.1 l hc.2]; exact k _ H same_rfl (.bl _)⟩
    · cases e
  · split at e
    · rename_i ds hc
      cases e
      obtain ⟨a, vs, rfl, hq, l⟩ := qy.seq
      exact .inl ⟨a, vs, rfl, .inl hq, qx.flat hc.1, l.flat hc.2, by rw [RpL.inF qx hc.1 l hc.2]; exact k _ H same_rfl (.bl _)⟩
    · cases e
  · split at e
    · rename_i c0 z l c hc
      cases e
      cases qx
      cases qy
      have : c0 = #[c] := by rw [← hc]
      subst this
      exact .inr (hr c z H Q (k _ H same_rfl (.bl _)))
    · cases e
  · cases e
theorem op_inD : ∃ r, OpR X (compareOp .In) r ∧ Op2 X.K r (inD false) := ⟨_, OpR.or op_in_seq op_in_sign, inD_op fun c z H Q q => ⟨c, z, rfl, rfl, q⟩⟩
theorem op_notInD : ∃ r, OpR X (compareOp .NotIn) r ∧ Op2 X.K r (inD true) := ⟨_, OpR.or op_notIn_seq op_notIn_sign, inD_op fun c z H Q q => ⟨c, z, rfl, rfl, q⟩⟩

/-! ### places, slices -/
def ixD : D → D → Option D
  | .lst ds, .int i => atD ds i
  | .fz ds, .int i => atD ds i
  | .tup ds, .int i => atD ds i
  | .str z, .int i => if z.length ≤ sizeLine then (atI z.cps.toList i).map fun c => .str ⟨#[c]⟩ else none
  | _, _ => none
theorem ix_op : Op2 X.K (rIx X.K) ixD := fun x y d e M H v u Q m qx qy k => by
  unfold ixD at e
  split at e
  · cases qy
    obtain ⟨a, vs, rfl, hq, l⟩ := qx.seq
    obtain ⟨w, hw, q⟩ := atD.run l e
    exact .inl ⟨a, vs, _, w, rfl, rfl, hq, hw, k _ H same_rfl q⟩
  · cases qy
    cases qx with
    | fz h n l =>
      obtain ⟨w, hw, q⟩ := atD.run l e
      exact .inl ⟨_, _, _, w, rfl, rfl, .inl h, hw, k _ H same_rfl q⟩
    | fzK h l =>
      obtain ⟨w, hw, q⟩ := atD.run l e
      exact .inl ⟨_, _, _, w, rfl, rfl, h H, hw, k _ H same_rfl q⟩
  · cases qy
    obtain ⟨a, vs, rfl, hq, l⟩ := qx.seqT
    obtain ⟨w, hw, q⟩ := atD.run l e
    exact .inr (.inl ⟨a, vs, _, w, rfl, rfl, hq, hw, k _ H same_rfl q⟩)
  · split at e
    · rename_i z i hz
      cases qx
      cases qy
      cases hc : atI z.cps.toList i with
      | none => rw [hc] at e; cases e
      | some c =>
        rw [hc] at e
        cases e
        exact .inr (.inr ⟨z, i, c, rfl, rfl, hz, hc, k _ H same_rfl (.str _)⟩)
    · cases e
  · cases e
theorem se_ix {B : Bs} {W : WX} {a b : Expr} {f g : F D} {pos : Pos} (hK : X.K = B.K) (ha : SE X B W a f) (hb : SE X B W b g) (hs : PlainIx b := by exact fun _ _ => rfl) : SE X B W (.Subscript a b pos) (op2F ixD f g) :=
  PE.imp (pe_ix ix_seq ha hb hs) fun σ H Q p => two_run (hK ▸ ix_op) p
def cutD (ds : List D) (lo hi : Option Int) : List D := (ds.drop (HT.sIx ds.length 0 lo)).take (HT.sIx ds.length ds.length hi - HT.sIx ds.length 0 lo)
theorem RpL.cut {M : MS} {H : Hp} {vs : List V} {ds : List D} (l : RpL K M H vs ds) (lo hi : Option Int) : RpL K M H (cutV vs lo hi) (cutD ds lo hi) := by
  unfold cutV cutD
  rw [l.length]
  exact (l.drop _).take _
def slD : D → Option Int → Option Int → Option D
  | .lst ds, lo, hi => some (.lst (cutD ds lo hi))
  | .fz ds, lo, hi => some (.lst (cutD ds lo hi))
  | .tup ds, lo, hi => if HT.sIx ds.length 0 lo = 0 ∧ HT.sIx ds.length ds.length hi = ds.length then some (.tup ds) else some (.tup (cutD ds lo hi))
  | .str z, lo, hi => if z.length ≤ sizeLine then some (.str (cutS z lo hi)) else none
  | _, _, _ => none
def noPartF : F (Option Int) := fun s => .ok none s
def partF (f : F D) : F (Option Int) := fun s => (f s).bind fun d s1 => match d with
  | .int i => .ok (some i) s1
  | _ => .no
def slF (f : F D) (lo hi : F (Option Int)) : F D := fun s => (f s).bind fun d s1 => (lo s1).bind fun l s2 => (hi s2).bind fun h s3 => toR (slD d l h) s3
theorem PO.imp {e : Option Expr} {t u : TO} (h : PO X e t) (k : ∀ σ H Q, u σ H Q → t σ H Q) : PO X e u := ⟨fun pins s σ H Q I q => h.run pins s σ H Q I (k σ H Q q)⟩
theorem so_none {B : Bs} {W : WX} : SO X B W none noPartF := PO.imp po_none fun σ H Q ⟨M, s, r, p⟩ => p.out r rfl
theorem so_some {B : Bs} {W : WX} {e : Expr} {f : F D} (h : SE X B W e f) : SO X B W (some e) (partF f) := PO.imp (po_some h) fun σ H Q ⟨M, s, r, p⟩ => ⟨M, s, r, Post.bind p fun d s1 M1 H1 v r1 q1 ev1 p1 => by
  split at p1
  · cases q1
    exact ⟨_, rfl, p1.out r1 rfl⟩
  · exact p1.elim⟩
theorem se_sl {B : Bs} {W : WX} {e : Expr} {lo hi : Option Expr} {f : F D} {fl fh : F (Option Int)} {p2 pos : Pos} (hK : X.K = B.K) (h : SE X B W e f) (hl : SO X B W lo fl) (hh : SO X B W hi fh) : SE X B W (.Subscript e (.Slice lo hi none p2) pos) (slF f fl fh) := by
  refine PE.imp (pe_slice (SlR.or sl_list (SlR.or sl_tupA sl_str)) h hl hh) fun σ H Q ⟨M, s, r, p⟩ => ⟨M, s, r, Post.bind p fun d s1 M1 H1 v r1 q1 ev1 p1 => ⟨M1, s1, r1, Post.bind p1 fun l s2 M2 H2 l' r2 q2 ev2 p2 => ⟨M2, s2, r2, Post.bind p2 fun u s3 M3 H3 u' r3 q3 ev3 p3 => ?_⟩⟩⟩
  have q2 : l' = l := q2
  have q3 : u' = u := q3
  subst q2 q3
  have q1 : Rp B.K M3 H3 v d := (Rp.move r1.mo ev2 q1).move r2.mo ev3
  unfold toR at p3
  split at p3
  · rename_i d' e
    unfold slD at e
    split at e
    · cases e
      obtain ⟨a, vs, rfl, hq, ll⟩ := q1.seq
      exact .inl ⟨a, vs, rfl, hK ▸ hq, fun p hp => p3.grow r3 (same_upd hp) (new_lst r3.mo hp (ll.cut _ _))⟩
    · cases e
      cases q1 with
      | fz h n ll => exact .inl ⟨_, _, rfl, .inl h, fun p hp => p3.grow r3 (same_upd hp) (new_lst r3.mo hp (ll.cut _ _))⟩
      | fzK h ll => exact .inl ⟨_, _, rfl, hK ▸ h H3, fun p hp => p3.grow r3 (same_upd hp) (new_lst r3.mo hp (ll.cut _ _))⟩
    · obtain ⟨a, vs, rfl, hq, ll⟩ := q1.seqT
      refine .inr (.inl ⟨a, vs, rfl, hK ▸ hq, fun z => ?_, fun z p hp => ?_⟩)
      · rw [ll.length] at z
        rw [if_pos z] at e
        cases e
        exact p3.out r3 q1
      · rw [ll.length] at z
        rw [if_neg z] at e
        cases e
        exact p3.grow r3 (same_upd hp) (new_tup r3.mo hp (ll.cut _ _))
    · split at e
      · rename_i hz
        cases e
        cases q1
        exact .inr (.inr ⟨_, rfl, hz, p3.out r3 (.str _)⟩)
      · cases e
    · cases e
  · exact p3.elim
end
end Fx

set_option Elab.async false
set_option linter.all false
set_option maxRecDepth 100000
namespace Fx
variable [Tbl]
open PySem L2 PyProof.Rows
section
variable {X : Cx}
/-! ### built-ins -/
def lenD : List D → Option D
  | [.lst ds] => some (.int ds.length)
  | [.fz ds] => some (.int ds.length)
  | [.tup ds] => some (.int ds.length)
  | [.str z] => if z.length ≤ sizeLine then some (.int z.length) else none
  | _ => none
theorem RpL.one {K : PySem.W.Frag} {M : MS} {H : Hp} {vs : List V} {d : D} (h : RpL K M H vs [d]) : ∃ v, vs = [v] ∧ Rp K M H v d := by
  cases h with
  | cons q t => cases t; exact ⟨_, rfl, q⟩
theorem RpL.two {K : PySem.W.Frag} {M : MS} {H : Hp} {vs : List V} {d e : D} (h : RpL K M H vs [d, e]) : ∃ v u, vs = [v, u] ∧ Rp K M H v d ∧ Rp K M H u e := by
  cases h with
  | cons q t =>
    obtain ⟨u, e, p⟩ := t.one
    subst e
    exact ⟨_, _, rfl, q, p⟩
theorem c_len : ∃ r, CallR X (.builtin "len") r ∧ OpN X.K r lenD := by
  refine ⟨_, call_len, fun xs d e M H vs Q m qs k => ?_⟩
  unfold lenD at e
  split at e
  · cases e
    obtain ⟨v, rfl, q⟩ := qs.one
    obtain ⟨a, ws, rfl, hq, l⟩ := q.seq
    exact ⟨_, _, rfl, .inl ⟨ws, hq, l.length.symm⟩, k _ H same_rfl (.int _)⟩
  · cases e
    obtain ⟨v, rfl, q⟩ := qs.one
    cases q with
    | fz h n l => exact ⟨_, _, rfl, .inl ⟨_, .inl h, l.length.symm⟩, k _ H same_rfl (.int _)⟩
    | fzK h l => exact ⟨_, _, rfl, .inl ⟨_, h H, l.length.symm⟩, k _ H same_rfl (.int _)⟩
  · cases e
    obtain ⟨v, rfl, q⟩ := qs.one
    obtain ⟨a, ws, rfl, hq, l⟩ := q.seqT
    exact ⟨_, _, rfl, .inr ⟨ws, hq, l.length.symm⟩, k _ H same_rfl (.int _)⟩
  · split at e
    · rename_i z hz
      cases e
      obtain ⟨v, rfl, q⟩ := qs.one
      cases q
      exact ⟨_, _, rfl, ⟨hz, rfl⟩, k _ H same_rfl (.int _)⟩
    · cases e
  · cases e
def intD : List D → Option D
  | [.int i] => some (.int i)
  | [.bl b] => some (.int (if b then 1 else 0))
  | _ => none
theorem c_int : ∃ r, CallR X (.type "int") r ∧ OpN X.K r intD := by
  refine ⟨_, call_int1, fun xs d e M H vs Q m qs k => ?_⟩
  unfold intD at e
  split at e
  · cases e
    obtain ⟨v, rfl, q⟩ := qs.one
    cases q
    exact .inl ⟨_, rfl, k _ H same_rfl (.int _)⟩
  · cases e
    obtain ⟨v, rfl, q⟩ := qs.one
    cases q
    exact .inr ⟨_, rfl, k _ H same_rfl (.int _)⟩
  · cases e
def boolD : List D → Option D
  | [.int i] => some (.bl (i != 0))
  | [.bl b] => some (.bl b)
  | _ => none
theorem c_bool : ∃ r, CallR X (.type "bool") r ∧ OpN X.K r boolD := by
  refine ⟨_, call_bool1, fun xs d e M H vs Q m qs k => ?_⟩
  unfold boolD at e
  split at e
  · cases e
    obtain ⟨v, rfl, q⟩ := qs.one
    cases q
    exact .inl ⟨_, rfl, k _ H same_rfl (.bl _)⟩
  · cases e
    obtain ⟨v, rfl, q⟩ := qs.one
    cases q
    exact .inr ⟨_, rfl, k _ H same_rfl (.bl _)⟩
  · cases e
def absD : List D → Option D
  | [.int i] => some (.int (if i < 0 then -i else i))
  | _ => none
theorem c_abs : ∃ r, CallR X (.builtin "abs") r ∧ OpN X.K r absD := by
  refine ⟨_, call_abs, fun xs d e M H vs Q m qs k => ?_⟩
  unfold absD at e
  split at e
  · cases e
    obtain ⟨v, rfl, q⟩ := qs.one
    cases q
    exact ⟨_, rfl, k _ H same_rfl (.int _)⟩
  · cases e
def divmodD : List D → Option D
  | [.int i, .int j] => if 0 < j ∧ j < 1073741824 then some (.tup [.int (i / j), .int (i % j)]) else none
  | _ => none
theorem c_divmod : ∃ r, CallR X (.builtin "divmod") r ∧ OpN X.K r divmodD := by
  refine ⟨_, call_divmod, fun xs d e M H vs Q m qs k => ?_⟩
  unfold divmodD at e
  split at e
  · split at e
    · rename_i hc
      cases e
      obtain ⟨v, u, rfl, q1, q2⟩ := qs.two
      cases q1
      cases q2
      exact ⟨_, _, rfl, hc, fun p hp => k _ _ (same_upd hp) (new_tup m hp (.cons (.int _) (.cons (.int _) .nil)))⟩
    · cases e
  · cases e
/-- list(x), tuple(x) -/
def listN : List D → Option (List D)
  | [.lst ds] => some ds
  | [.fz ds] => some ds
  | [.tup ds] => some ds
  | _ => none
theorem c_list : ∃ r, CallR X (.type "list") r ∧ OpW X.K r listN := by
  refine ⟨_, call_list_of, fun xs ds e M H vs Q m qs k => ?_⟩
  unfold listN at e
  split at e
  · cases e
    obtain ⟨v, rfl, q⟩ := qs.one
    obtain ⟨a, ws, rfl, hq, l⟩ := q.seq
    exact ⟨a, ws, rfl, .inl hq, fun p hp => k p ws H same_rfl hp l⟩
  · cases e
    obtain ⟨v, rfl, q⟩ := qs.one
    cases q with
    | fz h n l => exact ⟨_, _, rfl, .inl (.inl h), fun p hp => k p _ H same_rfl hp l⟩
    | fzK h l => exact ⟨_, _, rfl, .inl (h H), fun p hp => k p _ H same_rfl hp l⟩
  · cases e
    obtain ⟨v, rfl, q⟩ := qs.one
    obtain ⟨a, ws, rfl, hq, l⟩ := q.seqT
    exact ⟨a, ws, rfl, .inr hq, fun p hp => k p ws H same_rfl hp l⟩
  · cases e
def tupleD : List D → Option D
  | [.lst ds] => some (.tup ds)
  | [.fz ds] => some (.tup ds)
  | [.tup ds] => some (.tup ds)
  | _ => none
theorem c_tuple : ∃ r, CallR X (.type "tuple") r ∧ OpN X.K r tupleD := by
  refine ⟨_, call_tuple_of, fun xs d e M H vs Q m qs k => ?_⟩
  unfold tupleD at e
  split at e
  · cases e
    obtain ⟨v, rfl, q⟩ := qs.one
    obtain ⟨a, ws, rfl, hq, l⟩ := q.seq
    exact ⟨a, ws, rfl, .inl ⟨hq, fun p hp => k _ _ (same_upd hp) (new_tup m hp l)⟩⟩
  · cases e
    obtain ⟨v, rfl, q⟩ := qs.one
    cases q with
    | fz h n l => exact ⟨_, _, rfl, .inl ⟨.inl h, fun p hp => k _ _ (same_upd hp) (new_tup m hp l)⟩⟩
    | fzK h l => exact ⟨_, _, rfl, .inl ⟨h H, fun p hp => k _ _ (same_upd hp) (new_tup m hp l)⟩⟩
  · cases e
    obtain ⟨v, rfl, q⟩ := qs.one
    have q0 := q
    obtain ⟨a, ws, rfl, hq, l⟩ := q.seqT
    exact ⟨a, ws, rfl, .inr ⟨hq, k _ H same_rfl q0⟩⟩
  · cases e
/-- isinstance -/
def tyD : D → Option String
  | .non => some "NoneType"
  | .bl _ => some "bool"
  | .int _ => some "int"
  | .str _ => some "str"
  | .lst _ => some "list"
  | .tup _ => some "tuple"
  | .dic _ _ => some "dict"
  | _ => none
theorem Rp.tyx {K : PySem.W.Frag} {M : MS} {H : Hp} {v : V} {d : D} {t : String} (q : Rp K M H v d) (h : tyD d = some t) : TyX K H v (.type t) := by
  cases q with
  | non => cases h; exact .base .non
  | bl b => cases h; exact .base (.bl b)
  | int i => cases h; exact .base (.int i)
  | str x => cases h; exact .base (.str x)
  | lst h1 n l => cases h; exact .base (.lst h1)
  | tup h1 l => cases h; exact .base (.tup h1)
  | tupK h1 l =>
    cases h
    obtain ⟨o, its, n, h1, h2, _⟩ := h1
    exact .kTuple h1 h2
  | dic h1 n q l => cases h; exact .base (.dK h1)
  | _ => cases h
def tysD : List D → Option (List String)
  | [] => some []
  | .ty n :: ds => (tysD ds).map (n :: ·)
  | _ => none
def anyTy (t : String) : List String → Option Bool
  | [] => some false
  | n :: ns => match kitB t n with
    | some true => some true
    | some false => anyTy t ns
    | none => none
def isiD : List D → Option D
  | [x, .ty n] => match tyD x with
    | some t => (kitB t n).map .bl
    | none => none
  | [x, .tup ds] => match tyD x, tysD ds with
    | some t, some ns => (anyTy t ns).map .bl
    | _, _ => none
  | _ => none
theorem tysD.run {K : PySem.W.Frag} {M : MS} {H : Hp} : ∀ {ds : List D} {vs : List V} {ns : List String}, RpL K M H vs ds → tysD ds = some ns → Paired ClsV vs (ns.map Value.type) ∧ vs = ns.map V.ty
  | [], _, _, .nil, e => by cases e; exact ⟨.nil, rfl⟩
  | d :: ds, _, ns, .cons q qs, e => by
    cases d with
    | ty n =>
      cases q
      unfold tysD at e
      cases h : tysD ds with
      | none => rw [h] at e; cases e
      | some ms =>
        rw [h] at e
        cases e
        obtain ⟨h1, h2⟩ := tysD.run qs h
        exact ⟨.cons (.ty n) h1, by rw [h2]; rfl⟩
    | _ => cases e
theorem anyTy.run {K : PySem.W.Frag} {t : String} : ∀ {ns : List String} {b : Bool}, anyTy t ns = some b → PySem.W.kitAny K (.type t) (ns.map Value.type) = some b
  | [], b, e => e
  | n :: ns, b, e => by
    unfold anyTy at e
    split at e
    · rename_i h
      cases e
      exact kitAny_cons (b := true) (r := true) (kit_ty h) (fun z => by cases z) (fun _ => rfl)
    · rename_i h
      exact kitAny_cons (kit_ty h) (fun _ => anyTy.run e) (fun z => by cases z)
    · cases e
theorem c_isi : ∃ r, CallR X (.builtin "isinstance") r ∧ OpN X.K r isiD := by
  refine ⟨_, CallR.or call_isi (CallR.or call_isiT call_isiK), fun xs d e M H vs Q m qs k => ?_⟩
  unfold isiD at e
  split at e
  · split at e
    · rename_i t ht
      obtain ⟨v, u, rfl, q1, q2⟩ := qs.two
      cases q2
      cases hb : kitB t _ with
      | none => rw [hb] at e; cases e
      | some b =>
        rw [hb] at e
        cases e
        exact .inl ⟨_, _, _, _, b, rfl, .ty _, q1.tyx ht, kit_ty hb, k _ H same_rfl (.bl _)⟩
    · cases e
  · split at e
    · rename_i t ns ht hns
      obtain ⟨v, u, rfl, q1, q2⟩ := qs.two
      cases hb : anyTy t ns with
      | none => rw [hb] at e; cases e
      | some b =>
        rw [hb] at e
        cases e
        cases q2 with
        | tup h l =>
          obtain ⟨h1, h2⟩ := tysD.run l hns
          exact .inr (.inl ⟨_, _, _, _, _, b, rfl, h, h1, q1.tyx ht, anyTy.run hb, k _ H same_rfl (.bl _)⟩)
        | tupK h l =>
          obtain ⟨h1, h2⟩ := tysD.run l hns
          obtain ⟨⟨c, dd, data, sl⟩, its, n, h3, h4, h5, h6, h7⟩ := h
          have h4 : c = .type "tuple" := h4
          have h5 : data = .seq its n := h5
          subst h4 h5
          have e1 : its = (ns.map Value.type).toArray := by
            have := ClsV.all h1 h7
            rw [← this]
          rw [e1] at h3
          exact .inr (.inr ⟨_, _, dd, _, n, sl, _, b, rfl, h3, q1.tyx ht, anyTy.run hb, k _ H same_rfl (.bl _)⟩)
    · cases e
  · cases e
/-! ### ints in lists -/
def intsD : List D → Option (List Int)
  | [] => some []
  | .int i :: ds => (intsD ds).map (i :: ·)
  | _ => none
theorem intsD.run {K : PySem.W.Frag} {M : MS} {H : Hp} : ∀ {ds : List D} {vs : List V} {ns : List Int}, RpL K M H vs ds → intsD ds = some ns → vs = ns.map V.int
  | [], _, _, .nil, e => by cases e; rfl
  | d :: ds, _, ns, .cons q qs, e => by
    cases d with
    | int n =>
      cases q
      unfold intsD at e
      cases h : intsD ds with
      | none => rw [h] at e; cases e
      | some ms =>
        rw [h] at e
        cases e
        rw [intsD.run qs h]
        rfl
    | _ => cases e
theorem intsD.back {K : PySem.W.Frag} {M : MS} {H : Hp} : ∀ ns : List Int, RpL K M H (ns.map V.int) (ns.map D.int)
  | [] => .nil
  | n :: ns => .cons (.int n) (intsD.back ns)
theorem intsD.map : ∀ ns : List Int, intsD (ns.map D.int) = some ns
  | [] => rfl
  | n :: ns => by
    show (intsD (ns.map D.int)).map (n :: ·) = some (n :: ns)
    rw [intsD.map ns]
    rfl
def sortI (ns : List Int) : List Int := ns.mergeSort (fun a b => decide (a ≤ b))
theorem sortI_perm (ns : List Int) : (sortI ns).Perm ns := List.mergeSort_perm ns _
theorem sortI_sorted (ns : List Int) : (sortI ns).Pairwise (· ≤ ·) := by
  have h := List.pairwise_mergeSort (le := fun a b : Int => decide (a ≤ b)) (fun a b c h1 h2 => decide_eq_true (Int.le_trans (of_decide_eq_true h1) (of_decide_eq_true h2))) (fun a b => by
    rcases Int.le_total a b with h | h
    · rw [decide_eq_true h]; rfl
    · rw [decide_eq_true h, Bool.or_true]) ns
  exact h.imp fun h => of_decide_eq_true h
theorem sortI_uniq {ns ms : List Int} (h : ms.Perm ns) (hs : ms.Pairwise (· ≤ ·)) : ms = sortI ns :=
  List.Perm.eq_of_pairwise (fun a b _ _ h1 h2 => Int.le_antisymm h1 h2) hs (sortI_sorted ns) (h.trans (sortI_perm ns).symm)
def sortedN : List D → Option (List D)
  | [.lst ds] => (intsD ds).map fun ns => (sortI ns).map .int
  | _ => none
theorem c_sorted : ∃ r, CallR X (.builtin "sorted") r ∧ OpW X.K r sortedN := by
  refine ⟨_, cr_sortedI, fun xs ds e M H vs Q m qs k => ?_⟩
  unfold sortedN at e
  split at e
  · rename_i es
    obtain ⟨v, rfl, q⟩ := qs.one
    obtain ⟨a, ws, rfl, hq, l⟩ := q.seq
    cases h : intsD es with
    | none => rw [h] at e; cases e
    | some ns =>
      rw [h] at e
      cases e
      rw [intsD.run l h] at hq
      refine ⟨a, ns, rfl, hq, fun ns' p h1 h2 hp => ?_⟩
      rw [sortI_uniq h1 h2]
      exact k p _ H same_rfl hp (intsD.back _)
  · cases e
def sumD : List D → Option D
  | [.lst ds] => (intsD ds).map fun ns => .int ns.sum
  | _ => none
theorem c_sum (hc : X.calm = true) : ∃ r, CallR X (.builtin "sum") r ∧ OpN X.K r sumD := by
  refine ⟨_, cr_sum hc, fun xs d e M H vs Q m qs k => ?_⟩
  unfold sumD at e
  split at e
  · rename_i es
    obtain ⟨v, rfl, q⟩ := qs.one
    obtain ⟨a, ws, rfl, hq, l⟩ := q.seq
    cases h : intsD es with
    | none => rw [h] at e; cases e
    | some ns =>
      rw [h] at e
      cases e
      rw [intsD.run l h] at hq
      exact ⟨a, ns, rfl, hq, k _ H same_rfl (.int _)⟩
  · cases e
def maxI : Int → List Int → Int
  | a, [] => a
  | a, b :: r => maxI (if a < b then b else a) r
def minI : Int → List Int → Int
  | a, [] => a
  | a, b :: r => minI (if b < a then b else a) r
theorem maxI_spec : ∀ (r : List Int) (a : Int), (maxI a r = a ∨ maxI a r ∈ r) ∧ a ≤ maxI a r ∧ ∀ y ∈ r, y ≤ maxI a r
  | [], a => ⟨.inl rfl, Int.le_refl _, fun y hy => by cases hy⟩
  | b :: r, a => by
    obtain ⟨h1, h2, h3⟩ := maxI_spec r (if a < b then b else a)
    unfold maxI
    refine ⟨?_, ?_, fun y hy => ?_⟩
    · rcases h1 with h1 | h1
      · rw [h1]
        split
        · exact .inr List.mem_cons_self
        · exact .inl rfl
      · exact .inr (List.mem_cons_of_mem _ h1)
    · refine Int.le_trans ?_ h2
      split <;> omega
    · rcases List.mem_cons.mp hy with rfl | hy
      · refine Int.le_trans ?_ h2
        split <;> omega
      · exact h3 y hy
theorem minI_spec : ∀ (r : List Int) (a : Int), (minI a r = a ∨ minI a r ∈ r) ∧ minI a r ≤ a ∧ ∀ y ∈ r, minI a r ≤ y
  | [], a => ⟨.inl rfl, Int.le_refl _, fun y hy => by cases hy⟩
  | b :: r, a => by
    obtain ⟨h1, h2, h3⟩ := minI_spec r (if b < a then b else a)
    unfold minI
    refine ⟨?_, ?_, fun y hy => ?_⟩
    · rcases h1 with h1 | h1
      · rw [h1]
        split
        · exact .inr List.mem_cons_self
        · exact .inl rfl
      · exact .inr (List.mem_cons_of_mem _ h1)
    · refine Int.le_trans h2 ?_
      split <;> omega
    · rcases List.mem_cons.mp hy with rfl | hy
      · refine Int.le_trans h2 ?_
        split <;> omega
      · exact h3 y hy
def maxD : List D → Option D
  | [.lst ds] => match intsD ds with
    | some (a :: r) => some (.int (maxI a r))
    | _ => none
  | [.int i, .int j] => some (.int (if j > i then j else i))
  | _ => none
def minD : List D → Option D
  | [.lst ds] => match intsD ds with
    | some (a :: r) => some (.int (minI a r))
    | _ => none
  | [.int i, .int j] => some (.int (if j < i then j else i))
  | _ => none
theorem c_max (hc : X.calm = true) : ∃ r, CallR X (.builtin "max") r ∧ OpN X.K r maxD := by
  refine ⟨_, CallR.or (cr_max hc) (call_max2 hc), fun xs d e M H vs Q m qs k => ?_⟩
  unfold maxD at e
  split at e
  · obtain ⟨v, rfl, q⟩ := qs.one
    obtain ⟨a, ws, rfl, hq, l⟩ := q.seq
    split at e
    · rename_i b r h
      cases e
      rw [intsD.run l h] at hq
      obtain ⟨h1, h2, h3⟩ := maxI_spec r b
      refine .inl ⟨a, b :: r, rfl, hq, Nat.succ_pos _, fun n hn hb => ?_⟩
      have e1 : n = maxI b r := by
        refine Int.le_antisymm ?_ (hb _ ?_)
        · rcases List.mem_cons.mp hn with rfl | hn
          · exact h2
          · exact h3 n hn
        · rcases h1 with h1 | h1
          · rw [h1]; exact List.mem_cons_self
          · exact List.mem_cons_of_mem _ h1
      rw [e1]
      exact k _ H same_rfl (.int _)
    · cases e
  · cases e
    obtain ⟨v, u, rfl, q1, q2⟩ := qs.two
    cases q1
    cases q2
    exact .inr ⟨_, _, rfl, k _ H same_rfl (.int _)⟩
  · cases e
theorem c_min (hc : X.calm = true) : ∃ r, CallR X (.builtin "min") r ∧ OpN X.K r minD := by
  refine ⟨_, CallR.or (cr_min hc) (call_min2 hc), fun xs d e M H vs Q m qs k => ?_⟩
  unfold minD at e
  split at e
  · obtain ⟨v, rfl, q⟩ := qs.one
    obtain ⟨a, ws, rfl, hq, l⟩ := q.seq
    split at e
    · rename_i b r h
      cases e
      rw [intsD.run l h] at hq
      obtain ⟨h1, h2, h3⟩ := minI_spec r b
      refine .inl ⟨a, b :: r, rfl, hq, Nat.succ_pos _, fun n hn hb => ?_⟩
      have e1 : n = minI b r := by
        refine Int.le_antisymm (hb _ ?_) ?_
        · rcases h1 with h1 | h1
          · rw [h1]; exact List.mem_cons_self
          · exact List.mem_cons_of_mem _ h1
        · rcases List.mem_cons.mp hn with rfl | hn
          · exact h2
          · exact h3 n hn
      rw [e1]
      exact k _ H same_rfl (.int _)
    · cases e
  · cases e
    obtain ⟨v, u, rfl, q1, q2⟩ := qs.two
    cases q1
    cases q2
    exact .inr ⟨_, _, rfl, k _ H same_rfl (.int _)⟩
  · cases e
/-- repr -/
def reprD : List D → Option D
  | [x] => match toPy x with
    | some d => if d.showable = true ∧ d.hasDict = false ∧ d.depth < 60 ∧ d.shown.length ≤ sizeLine then some (.str d.shown) else none
    | none => none
  | _ => none
theorem c_repr (hg : X.A.guards = some []) (hu : X.A.units + 64 < cLine) : ∃ r, CallR X (.builtin "repr") r ∧ OpN X.K r reprD := by
  refine ⟨fun vs H Q => ∃ v d, vs = [v] ∧ Dp X.K H v d ∧ d.showable = true ∧ d.hasDict = false ∧ d.depth < 60 ∧ d.shown.length ≤ sizeLine ∧ Q (.str d.shown) H, ?_, fun xs d e M H vs Q m qs k => ?_⟩
  · intro pins s σ H vs us Q I r h
    obtain ⟨v, d, rfl, hd, h1, h2, h3, h4, q⟩ := h
    obtain ⟨u, rfl, ru⟩ := vals1 r
    cases hd with
    | non => cases ru; exact PySem.P.repr_of_none ⟨.str _, H, I.tok _, ⟨_, rfl⟩, by simpa only [PyData.shown] using q⟩
    | bl b => cases ru; exact PySem.P.repr_of_bool ⟨.str _, H, I.tok _, ⟨_, rfl⟩, by simpa only [PyData.shown] using q⟩
    | int i =>
      obtain ⟨t, rfl⟩ := ru
      exact PySem.P.repr_of_int (by simpa [PyData.showable] using h1) ⟨.str _, H, I.tok _, ⟨_, rfl⟩, by simpa only [PyData.shown] using q⟩
    | str x =>
      obtain ⟨t, rfl⟩ := ru
      exact PySem.P.repr_of_str ⟨.str _, H, I.tok _, ⟨_, rfl⟩, by simpa only [PyData.shown] using q⟩ (by simpa only [PyData.shown] using h4)
    | @lst a xs ds hs ha =>
      cases ru
      obtain ⟨as, hr⟩ := Dp.reads I (.list ds) (.ref a) (.ref a) (.lst hs ha) rfl
      exact repr_of_reads' hr h1 (PySem.PyData.noDict_hsm h2) hg (by omega) (fun _ _ e => e) (fun h' u tk hk => ⟨.str _, H, I.kept hk, ⟨u, rfl⟩, q⟩) h4
    | @tup a xs ds hs ha =>
      cases ru
      obtain ⟨as, hr⟩ := Dp.reads I (.tuple ds) (.ref a) (.ref a) (.tup hs ha) rfl
      exact repr_of_reads' hr h1 (PySem.PyData.noDict_hsm h2) hg (by omega) (fun _ _ e => e) (fun h' u tk hk => ⟨.str _, H, I.kept hk, ⟨u, rfl⟩, q⟩) h4
  · unfold reprD at e
    split at e
    · split at e
      · split at e
        · rename_i d hd hc
          cases e
          obtain ⟨v, rfl, q⟩ := qs.one
          exact ⟨v, d, rfl, q.dp hd, hc.1, hc.2.1, hc.2.2.1, hc.2.2.2, k _ H same_rfl (.str _)⟩
        · cases e
      · cases e
    · cases e
/-- all, any of bools -/
def blsD : List D → Option (List Bool)
  | [] => some []
  | .bl i :: ds => (blsD ds).map (i :: ·)
  | _ => none
theorem blsD.run {K : PySem.W.Frag} {M : MS} {H : Hp} : ∀ {ds : List D} {vs : List V} {ns : List Bool}, RpL K M H vs ds → blsD ds = some ns → vs = ns.map V.bl
  | [], _, _, .nil, e => by cases e; rfl
  | d :: ds, _, ns, .cons q qs, e => by
    cases d with
    | bl n =>
      cases q
      unfold blsD at e
      cases h : blsD ds with
      | none => rw [h] at e; cases e
      | some ms =>
        rw [h] at e
        cases e
        rw [blsD.run qs h]
        rfl
    | _ => cases e
def allD : List D → Option D
  | [.lst ds] => (blsD ds).map fun bs => .bl (bs.all id)
  | _ => none
theorem c_all (hc : X.calm = true) : ∃ r, CallR X (.builtin "all") r ∧ OpN X.K r allD := by
  refine ⟨_, cr_all hc, fun xs d e M H vs Q m qs k => ?_⟩
  unfold allD at e
  split at e
  · rename_i es
    obtain ⟨v, rfl, q⟩ := qs.one
    obtain ⟨a, ws, rfl, hq, l⟩ := q.seq
    cases h : blsD es with
    | none => rw [h] at e; cases e
    | some ns =>
      rw [h] at e
      cases e
      rw [blsD.run l h] at hq
      exact ⟨a, ns, rfl, hq, k _ H same_rfl (.bl _)⟩
  · cases e
/-! ### ranges -/
def rngD (a b : Int) : List D := (List.range (b - a).toNat).map fun i => D.int (a + (i : Nat))
theorem rngD.run {K : PySem.W.Frag} {M : MS} {H : Hp} (a b : Int) : RpL K M H (rgV a b) (rngD a b) := by
  unfold rgV rngD
  generalize List.range (b - a).toNat = l
  induction l with
  | nil => exact .nil
  | cons i l ih => exact .cons (.int _) ih
def sm62 (a : Int) : Bool := decide (-(2 ^ 62) ≤ a ∧ a < 2 ^ 62)
def rng1F (f : F D) : F (List D) := fun s => (f s).bind fun x s1 => match x with
  | .int n => if sm62 n = true then .ok (rngD 0 n) s1 else .no
  | _ => .no
def rng2F (f g : F D) : F (List D) := fun s => (f s).bind fun x s1 => (g s1).bind fun y s2 => match x, y with
  | .int a, .int b => if sm62 a = true ∧ sm62 b = true then .ok (rngD a b) s2 else .no
  | _, _ => .no
theorem wk_rng {K : PySem.W.Frag} {M : MS} {H : Hp} {a b : Int} : Wk K M H (Itr a (b - a).toNat) (rngD a b) where
  go := fun i d M' H' m ev e => by
    unfold rngD at e
    rw [List.getElem?_map] at e
    cases h : (List.range (b - a).toNat)[i]? with
    | none => rw [h] at e; cases e
    | some j =>
      rw [h] at e
      cases e
      obtain ⟨hi, hj⟩ := List.getElem?_eq_some_iff.mp h
      rw [List.length_range] at hi
      rw [List.getElem_range] at hj
      subst hj
      refine ⟨hi, fun x H'' y => ?_⟩
      obtain ⟨rfl, rfl⟩ := y
      exact ⟨same_rfl, .int _⟩
  stop := fun M' H' m ev => by
    show (b - a).toNat ≤ (rngD a b).length
    unfold rngD
    rw [List.length_map, List.length_range]
    exact Nat.le_refl _
variable {B : Bs} {W : WX} {e e2 tg : Expr} {f g : F D} {p pos : Pos}
theorem si_rng1 (hg : Gl X "range") (hm : X.mg "range" = none) (he : SE X B W e f) (hs : starEach [e] X.env = [(false, eval e X.env)] := by rfl) : SI X B W tg (.Call (.Name "range" p) [e] [] pos) (rng1F f) := by
  refine PI.imp (pi_range1 hg hm (pa_cons he pa_nil hs) hs) fun σ H Q ⟨M, s, r, p⟩ => ⟨M, s, r, PostI.bind p fun x s1 M1 H1 v r1 q1 ev1 p1 => ?_⟩
  split at p1
  · split at p1
    · rename_i n hn
      cases q1
      have hn := of_decide_eq_true hn
      refine ⟨n, rfl, hn.1, hn.2, ?_⟩
      have := p1.out r1 (J := Itr 0 (n - 0).toNat) wk_rng
      rw [Int.sub_zero] at this
      exact this
    · exact p1.elim
  · exact p1.elim
theorem si_rng2 (hg : Gl X "range") (hm : X.mg "range" = none) (he : SE X B W e f) (he2 : SE X B W e2 g) (hs : starEach [e, e2] X.env = [(false, eval e X.env), (false, eval e2 X.env)] := by rfl) (hs2 : starEach [e2] X.env = [(false, eval e2 X.env)] := by rfl) : SI X B W tg (.Call (.Name "range" p) [e, e2] [] pos) (rng2F f g) := by
  refine PI.imp (pi_range2 hg hm (pa_cons he (pa_cons he2 pa_nil hs2) (by rw [hs, hs2])) hs hs2) fun σ H Q ⟨M, s, r, p⟩ => ⟨M, s, r, PostI.bind p fun x s1 M1 H1 v r1 q1 ev1 p1 => ⟨M1, s1, r1, PostI.bind p1 fun y s2 M2 H2 u r2 q2 ev2 p2 => ?_⟩⟩
  split at p2
  · split at p2
    · rename_i a b hn
      cases q1
      cases q2
      have h1 := of_decide_eq_true hn.1
      have h2 := of_decide_eq_true hn.2
      exact ⟨a, b, rfl, ⟨h1.1, h1.2, h2.1, h2.2⟩, p2.out r2 wk_rng⟩
    · exact p2.elim
  · exact p2.elim
/-- list(range(..)), tuple(range(..)) -/
def rngOk (a b : Int) : Bool := decide (-(2 ^ 62) ≤ a ∧ a < 2 ^ 62 ∧ -(2 ^ 62) ≤ b ∧ b < 2 ^ 62 ∧ (b - a).toNat ≤ 2 ^ 24)
theorem rngOk.run {a b : Int} (h : rngOk a b = true) : RgOk a b := by
  unfold rngOk at h
  have h2 := of_decide_eq_true h
  exact h2
def lrng1N (f : F D) : F (List D) := fun s => (f s).bind fun x s1 => match x with
  | .int n => if rngOk 0 n = true then .ok (rngD 0 n) s1 else .no
  | _ => .no
def lrng2N (f g : F D) : F (List D) := fun s => (f s).bind fun x s1 => (g s1).bind fun y s2 => match x, y with
  | .int a, .int b => if rngOk a b = true then .ok (rngD a b) s2 else .no
  | _, _ => .no
theorem sn_list1 {p' pos' : Pos} (hc : X.calm = true) (hgl : Gl X "list") (hml : X.mg "list" = none) (hg : Gl X "range") (hm : X.mg "range" = none) (he : SE X B W e f) (na : starEach [e] X.env = (false, eval e X.env) :: starEach [] X.env := by rfl)
    (nb : starEach [.Call (.Name "range" p) [e] [] pos] X.env = (false, eval (.Call (.Name "range" p) [e] [] pos) X.env) :: starEach [] X.env := by rfl) : SN X B W (.Call (.Name "list" p') [.Call (.Name "range" p) [e] [] pos] [] pos') (lrng1N f) := by
  refine PE.imp (pe_listRg hc hgl hml (prg_1 hg hm he na) nb) fun σ H Q ⟨M, s, r, p⟩ => ⟨M, s, r, PostN.bind p fun x s1 M1 H1 v r1 q1 ev1 p1 => ?_⟩
  split at p1
  · split at p1
    · rename_i n hn
      cases q1
      exact ⟨n, rfl, rngOk.run hn, fun q hq => p1.laid r1 hq (rngD.run _ _)⟩
    · exact p1.elim
  · exact p1.elim
theorem sn_list2 {p' pos' : Pos} (hc : X.calm = true) (hgl : Gl X "list") (hml : X.mg "list" = none) (hg : Gl X "range") (hm : X.mg "range" = none) (he : SE X B W e f) (he2 : SE X B W e2 g) (na : starEach [e, e2] X.env = (false, eval e X.env) :: starEach [e2] X.env := by rfl)
    (nc : starEach [e2] X.env = (false, eval e2 X.env) :: starEach [] X.env := by rfl) (hpl : (backTo pos (starEach [e2] X.env)).any (·.1) = false := by rfl)
    (nb : starEach [.Call (.Name "range" p) [e, e2] [] pos] X.env = (false, eval (.Call (.Name "range" p) [e, e2] [] pos) X.env) :: starEach [] X.env := by rfl) : SN X B W (.Call (.Name "list" p') [.Call (.Name "range" p) [e, e2] [] pos] [] pos') (lrng2N f g) := by
  refine PE.imp (pe_listRg hc hgl hml (prg_2 hg hm he he2 na nc hpl) nb) fun σ H Q ⟨M, s, r, p⟩ => ⟨M, s, r, PostN.bind p fun x s1 M1 H1 v r1 q1 ev1 p1 => ⟨M1, s1, r1, PostN.bind p1 fun y s2 M2 H2 u r2 q2 ev2 p2 => ?_⟩⟩
  split at p2
  · split at p2
    · rename_i a b hn
      cases q1
      cases q2
      exact ⟨a, b, rfl, rfl, rngOk.run hn, fun q hq => p2.laid r2 hq (rngD.run _ _)⟩
    · exact p2.elim
  · exact p2.elim
/-- a new list as a value -/
def lstF' (k : F (List D)) : F D := fun s => (k s).bind fun ds s1 => .ok (.lst ds) s1
theorem SR.letgo {M : MS} {σ : L2.St} {H : Hp} {s : List Sl} {a : Addr} {ds : List D} (r : SR B M σ H s) (o : Owned B σ s M H a ds) : SR B (Wout M a) σ H s ∧ Rp B.K (Wout M a) H (.ref a) (.lst ds) := by
  obtain ⟨xs, h1, h2, h3, h4, h5, h6⟩ := o
  have sb : Ev M H (Wout M a) H := .sub fun b z => z.1
  have nmc : ¬ B.Mc a := fun z => r.bm.thereF h3 z
  refine ⟨?_, .lst h1 (fun z => z.2 rfl) (h4.move r.mo sb)⟩
  exact {
    va := fun i d e => let ⟨v, e1, q⟩ := r.va i d e; ⟨v, e1, q.move r.mo sb⟩
    ow := fun i d e => let ⟨b, zs, e1, q, m, n, l⟩ := r.ow i d e; ⟨b, zs, e1, q, ⟨m, fun z => h6 i d e (z ▸ e1)⟩, n, l.move r.mo sb⟩
    io := fun i d e => let ⟨z, b, zs, p, e1, q, m, l⟩ := r.io i d e; ⟨z, b, zs, p, e1, q, ⟨m, fun y => nmc (y ▸ (r.pa b p).1)⟩, l.move r.mo sb⟩
    pa := r.pa
    ne := r.ne
    mo := fun b z => r.mo b z.1
    up := fun b z => ⟨r.up b z, fun y => nmc (y ▸ z)⟩
    dn := fun b z => r.dn b z.1
    st := r.st
    bm := r.bm
    lk := fun b o e => by
      obtain ⟨g1, g2, g3⟩ := r.lk b o e
      exact ⟨⟨g1, fun z => by rw [z, h5] at e; cases e⟩, g2, g3⟩
    len := r.len
    tb := r.tb }
theorem se_new {k : F (List D)} (h : SN X B W e k) : SE X B W e (lstF' k) := PE.imp h fun σ H Q ⟨M, s, r, p⟩ => by
  refine ⟨M, s, r, ?_⟩
  unfold lstF' at p
  cases hk : k s with
  | no => rw [hk] at p; exact p.elim
  | er x s1 => rw [hk] at p; exact p
  | ok ds s1 =>
    rw [hk, R.bind_ok] at p
    intro a H' M' r' o ev
    obtain ⟨r2, q⟩ := r'.letgo o
    exact p (.ref a) H' _ r2 q (ev.trans (.sub fun b z => z.1))
end
end Fx

set_option Elab.async false
set_option linter.all false
set_option maxRecDepth 100000
namespace Fx
variable [Tbl]
open PySem L2 PyProof.Rows
/-! ### min, max of a list of tuples of ints: the loop with comparisons that may look at the state of the walk -/
def CmpAt (prog : Program) (w : World) (A : Around) (op : CmpOp) (P : Nat → Value → Prop) (St : Nat → Heap → Prop) (bt : Nat → Nat → Bool) : Prop :=
  ∀ k i j vi vj (s : Shared) (Q : Value → Shared → Prop) (E : Value → Shared → Prop), P i vi → P j vj → St k s.heap → Q (.bool (bt i j)) s → wpAny (model prog w) A (richCompare op vi vj) Q E s
section
variable {prog : Program} {w : World} {A : Around} {R : Result → Shared → Prop} {I : Addr} {fp wr : List Addr} {n : Nat} {P : Nat → Value → Prop} {St : Nat → Heap → Prop}
theorem min_loopA (W : Walks prog w A.in1 I fp wr n P St) (bt : Nat → Nat → Bool) (cmp : CmpAt prog w A.in1 .Lt P St bt) (S : Addr) (nf : S ∉ fp) :
    ∀ (k j : Nat) (s : Shared) (vb : Value) (c : Nat), n - (j + 1) = k → j + 1 ≤ n → St (j + 1) s.heap → P (argBest bt j) vb →
    s.heap.get? S = some { cls := .type "list", dict := none, data := .seq #[vb, vb] c, slots := #[] } →
    (∀ v g1 tk1, P (argBest bt (n - 1)) v → (∀ b o, b ∉ wr → b ≠ S → s.heap.get? b = some o → g1.get? b = some o) → R (.ok (.ret v)) { s with heap := g1, toks := tk1 }) →
    codeAny (model prog w) A (.builtin "min.loop" ⟨[.ref I, .none, .ref S], []⟩) R s := by
  have nw : S ∉ wr := fun h => nf (W.sub _ h)
  have en : (toString "min" ++ toString ".loop" : String) = "min.loop" := by decide
  intro k
  induction k with
  | zero =>
    intro j s vb c kp jn st0 pb gS fin
    have ej : j + 1 = n := by omega
    refine codeAny_builtin F.entry_min_loop ?_
    rw [Around.under_plainId F.plain_min_loop _]
    show wpAny _ A.in1 (seqItems? (.ref S) >>= _) _ _ s
    refine wpAny_bind (wpAny_seqItems gS rfl ?_)
    show wpAny _ A.in1 (tryCatch (pyNext (.ref I)) _ >>= _) _ _ s
    refine wpAny_bind (wpAny_tryCatch (W.done s _ _ (ej ▸ st0) fun g1 tk1 kp1 => ?_))
    have gS1 := kp1 S _ nw gS
    show wpAny _ A.in1 (updateSeq S (fun _ => #[]) >>= _) _ _ _
    refine wpAny_bind ?_
    refine wpAny_updateSeq gS1 rfl (wpAny_bind (wpAny_letGo (wpAny_pure ?_)))
    refine fin vb _ tk1 (by rw [← ej]; exact pb) fun b o nbw neS e => (Heap.get?_update_other _ _ (Ne.symm neS)).trans (kp1 b o nbw e)
  | succ k ih =>
    intro j s vb c kp jn st0 pb gS fin
    have jlt : j + 1 < n := by omega
    refine codeAny_builtin F.entry_min_loop ?_
    rw [Around.under_plainId F.plain_min_loop _]
    show wpAny _ A.in1 (seqItems? (.ref S) >>= _) _ _ s
    refine wpAny_bind (wpAny_seqItems gS rfl ?_)
    show wpAny _ A.in1 (tryCatch (pyNext (.ref I)) _ >>= _) _ _ s
    refine wpAny_bind (wpAny_tryCatch (W.item (j + 1) s _ _ jlt st0 fun v g1 tk1 p0 st1 kp1 => ?_))
    have gS1 := kp1 S _ nw gS
    show wpAny _ A.in1 (tryCatch (holding [v, v] (richCompare .Lt v vb >>= _)) _ >>= _) _ _ _
    refine wpAny_bind (wpAny_tryCatch (wpAny_holding (wpAny_bind (cmp _ (j + 1) (argBest bt j) v vb _ _ _ p0 pb st1 ?_))))
    refine wpAny_bind (wpAny_holding (wpAny_truthy_bool ?_))
    refine wpAny_bind (wpAny_letGo (wpAny_pure ?_))
    cases ebt : bt (j + 1) (argBest bt j) with
    | true =>
      simp only [if_true]
      refine wpAny_bind ?_
      refine wpAny_updateSeq gS1 rfl (wpAny_bind (wpAny_letGo ?_))
      rw [en]
      refine wpAny_pure ⟨plainId_quiet F.plain_min_loop _, ih (j + 1) _ v _ (by omega) jlt (W.frame _ _ _ st1 fun b ibf o e => ?_) (by simp only [argBest, ebt, if_true]; exact p0) (Heap.get?_update_self _ gS1 rfl)
        fun v1 g2 tk2 p1 kp2 => ?_⟩
      · exact (Heap.get?_update_other _ _ (fun h : S = b => nf (by rw [h]; exact ibf))).trans e
      · exact fin v1 g2 tk2 p1 fun b o nbw neS e => kp2 b o nbw neS ((Heap.get?_update_other _ _ (Ne.symm neS)).trans (kp1 b o nbw e))
    | false =>
      simp only [Bool.false_eq_true, if_false]
      refine wpAny_bind (wpAny_letGo ?_)
      rw [en]
      refine wpAny_pure ⟨plainId_quiet F.plain_min_loop _, ih (j + 1) _ vb c (by omega) jlt st1 (by simp only [argBest, ebt, Bool.false_eq_true, if_false]; exact pb) gS1 fun v1 g2 tk2 p1 kp2 => ?_⟩
      exact fin v1 g2 tk2 p1 fun b o nbw neS e => kp2 b o nbw neS (kp1 b o nbw e)
theorem min_firstA (W : Walks prog w A.in1 I fp wr n P St) (bt : Nat → Nat → Bool) (cmp : CmpAt prog w A.in1 .Lt P St bt) (S : Addr) (nf : S ∉ fp) (pos0 : 0 < n) {s : Shared} {c : Nat} (st0 : St 0 s.heap)
    (gS : s.heap.get? S = some { cls := .type "list", dict := none, data := .seq #[] c, slots := #[] })
    (fin : ∀ v g1 tk1, P (argBest bt (n - 1)) v → (∀ b o, b ∉ wr → b ≠ S → s.heap.get? b = some o → g1.get? b = some o) → R (.ok (.ret v)) { s with heap := g1, toks := tk1 }) :
    codeAny (model prog w) A (.builtin "min.loop" ⟨[.ref I, .none, .ref S], []⟩) R s := by
  have nw : S ∉ wr := fun h => nf (W.sub _ h)
  have en : (toString "min" ++ toString ".loop" : String) = "min.loop" := by decide
  refine codeAny_builtin F.entry_min_loop ?_
  rw [Around.under_plainId F.plain_min_loop _]
  show wpAny _ A.in1 (seqItems? (.ref S) >>= _) _ _ s
  refine wpAny_bind (wpAny_seqItems gS rfl ?_)
  show wpAny _ A.in1 (tryCatch (pyNext (.ref I)) _ >>= _) _ _ s
  refine wpAny_bind (wpAny_tryCatch (W.item 0 s _ _ pos0 st0 fun v g1 tk1 p0 st1 kp1 => ?_))
  have gS1 := kp1 S _ nw gS
  show wpAny _ A.in1 (updateSeq S (fun _ => #[v, v]) >>= _) _ _ _
  refine wpAny_bind ?_
  refine wpAny_updateSeq gS1 rfl ?_
  rw [en]
  refine wpAny_pure ⟨plainId_quiet F.plain_min_loop _, min_loopA W bt cmp S nf _ 0 _ v _ rfl pos0 (W.frame _ _ _ st1 fun b ibf o e => ?_) p0 (Heap.get?_update_self _ gS1 rfl) fun v1 g2 tk2 p1 kp2 => ?_⟩
  · exact (Heap.get?_update_other _ _ (fun h : S = b => nf (by rw [h]; exact ibf))).trans e
  · exact fin v1 g2 tk2 p1 fun b o nbw neS e => kp2 b o nbw neS ((Heap.get?_update_other _ _ (Ne.symm neS)).trans (kp1 b o nbw e))
end
section
variable {prog : Program} {w : World} {A : Around} {E : Value → Shared → Prop} {s : Shared}
theorem min_walkA {x : Value} {Q : Value → Shared → Prop}
    (h : wpAny (model prog w) A.in1 (pyIter x) (fun it s2 => ∃ I fp wr n P St bt, it = .ref I ∧ Walks prog w A.in1 I fp wr n P St ∧ St 0 s2.heap ∧ (∀ b ∈ fp, b < s2.heap.objs.size) ∧ 0 < n ∧ CmpAt prog w A.in1 .Lt P St bt ∧
      ∀ v g1 tk1, P (argBest bt (n - 1)) v → (∀ b o, b ∉ wr → s2.heap.get? b = some o → g1.get? b = some o) → Q v { s2 with heap := g1, toks := tk1 }) E s) :
    wpAny (model prog w) A (call (.builtin "min") [x]) Q E s := by
  have en : (toString "min" ++ toString ".loop" : String) = "min.loop" := by decide
  refine call_function_tree F.kind_min F.plain_min F.entry_min (F.args_min1 _) ?_
  show wpAny _ A.in1 (Builtin.Builtins.bindParams "min" ["key", "default"] 0 ⟨[], []⟩ >>= _) _ _ s
  refine wpAny_bind (wpAny_of_eq (show Builtin.Builtins.bindParams "min" ["key", "default"] 0 ⟨[], []⟩ = pure [none, none] from rfl) ?_)
  refine wpAny_bind (wpAny_pure ?_)
  refine wpAny_bind (wpAny_mono h (fun it s2 h2 => ?_) fun _ _ e => e)
  obtain ⟨I, fp, wr, n, P, St, bt, rfl, W, st0, fpl, pos0, cmp, q0⟩ := h2
  refine wpAny_bind (wpAny_newObj_type ?_)
  have nf : s2.heap.objs.size ∉ fp := fun hm => Nat.lt_irrefl _ (fpl _ hm)
  rw [en]
  refine wpAny_pure ⟨plainId_quiet F.plain_min_loop _, min_firstA W bt cmp s2.heap.objs.size nf pos0 (W.frame _ _ _ st0 fun b _ o e => Heap.get?_push_of_some _ e) (Heap.get?_push_size _ rfl) fun v g1 tk1 p0 kp => ?_⟩
  exact q0 v g1 tk1 p0 fun b o nbw e => kp b o nbw (Nat.ne_of_lt (Heap.lt_size e)) (Heap.get?_push_of_some _ e)
def lexB (nss : List (List Int)) (i j : Nat) : Bool := HT.lexLt (nss.getD i []) (nss.getD j [])
def refsOf (vs : List Value) : List Addr := vs.filterMap fun v => match v with
  | .ref t => some t
  | _ => none
theorem mem_refsOf {vs : List Value} {t : Addr} (h : Value.ref t ∈ vs) : t ∈ refsOf vs := List.mem_filterMap.mpr ⟨_, h, rfl⟩
theorem refsOf_mem {vs : List Value} {t : Addr} (h : t ∈ refsOf vs) : Value.ref t ∈ vs := by
  obtain ⟨v, hv, e⟩ := List.mem_filterMap.mp h
  split at e
  · cases e; exact hv
  · cases e
/-- the tuples of a list, as they lie -/
def TsAt (h : Heap) (vs : List Value) (nss : List (List Int)) : Prop := ∀ i v, vs[i]? = some v → TS.TupInts h v (nss.getD i [])
theorem tupInts_kept {h h' : Heap} {v : Value} {ns : List Int} (x : TS.TupInts h v ns) (k : ∀ t, v = .ref t → ∀ o, h.get? t = some o → h'.get? t = some o) : TS.TupInts h' v ns := by
  obtain ⟨t, its, e, ⟨o, ho, r⟩, hi⟩ := x
  exact ⟨t, its, e, ⟨o, k t e o ho, r⟩, hi⟩
theorem tsAt_kept {h h' : Heap} {vs : List Value} {nss : List (List Int)} (x : TsAt h vs nss) (k : ∀ t ∈ refsOf vs, ∀ o, h.get? t = some o → h'.get? t = some o) : TsAt h' vs nss :=
  fun i v e => tupInts_kept (x i v e) fun t et => k t (mem_refsOf (et ▸ List.mem_of_getElem? e))
theorem walks_tups (hh : A.handled = none) (I ax : Addr) (hne : ax ≠ I) (items : Array Value) (nss : List (List Int)) (hI : I ∉ refsOf items.toList) :
    Walks prog w A I (I :: ax :: refsOf items.toList) [I] items.size (fun i v => items[i]? = some v) (fun i h => (h.IsListIter I ax i ∧ h.IsList ax items) ∧ TsAt h items.toList nss) where
  sub := fun b hb => by simp at hb; simp [hb]
  frame := fun _ _ _ st hk => ⟨(Walks.list (prog := prog) (w := w) (A := A) hh I ax hne items).frame _ _ _ st.1 fun b hb o e => hk b (by
    rcases List.mem_cons.mp hb with rfl | hb
    · exact List.mem_cons_self
    · rcases List.mem_cons.mp hb with rfl | hb
      · exact List.mem_cons_of_mem _ List.mem_cons_self
      · cases hb) o e, tsAt_kept st.2 fun t ht o e => hk t (List.mem_cons_of_mem _ (List.mem_cons_of_mem _ ht)) o e⟩
  item := fun i s Q E hi st hQ => (Walks.list (prog := prog) (w := w) (A := A) hh I ax hne items).item i s Q E hi st.1 fun v h' tk hp hs' hk => hQ v h' tk hp ⟨hs', tsAt_kept st.2 fun t ht o e => hk t o (fun z => by
    rcases List.mem_cons.mp z with rfl | z
    · exact hI ht
    · cases z) e⟩ hk
  done := fun s Q E st hQ => (Walks.list (prog := prog) (w := w) (A := A) hh I ax hne items).done s Q E st.1 hQ
  self := fun i s Q E st hQ => (Walks.list (prog := prog) (w := w) (A := A) hh I ax hne items).self i s Q E st.1 hQ
theorem min_tups {ax : Addr} {items : Array Value} {nss : List (List Int)} {Q : Value → Shared → Prop} (hh : A.handled = none) (hu : A.units + 64 < cLine) (hl : s.heap.IsList ax items) (ht : TsAt s.heap items.toList nss) (hne : 0 < items.size)
    (h : ∀ v h' tk, items[argBest (lexB nss) (items.size - 1)]? = some v → (∀ b o, s.heap.get? b = some o → h'.get? b = some o) → Q v { s with heap := h', toks := tk }) :
    wpAny (model prog w) A (call (.builtin "min") [.ref ax]) Q E s := by
  have hlt : ax < s.heap.objs.size := by obtain ⟨_, e, _⟩ := hl; exact Heap.lt_size e
  have hr : ∀ t ∈ refsOf items.toList, t < s.heap.objs.size := fun t m => by
    obtain ⟨i, hi, e⟩ := List.getElem_of_mem (refsOf_mem m)
    obtain ⟨t', its, e', ⟨o, ho, _⟩, _⟩ := ht i _ (List.getElem?_eq_some_iff.mpr ⟨hi, e⟩)
    cases e'
    exact Heap.lt_size ho
  refine min_walkA (wpAny_pyIter_list hl ?_)
  refine ⟨_, _, _, _, _, _, lexB nss, rfl, walks_tups (A := A.in1) hh s.heap.objs.size ax (Nat.ne_of_lt hlt) items nss (fun m => Nat.lt_irrefl _ (hr _ m)),
    ⟨⟨⟨_, Heap.get?_push_size _ rfl, rfl, rfl⟩, hl.push _⟩, tsAt_kept ht fun t _ o e => Heap.get?_push_of_some _ e⟩, fun b hb => ?_, hne, ?_, fun v h' tk hP hk => ?_⟩
  · show b < (s.heap.push _).objs.size
    rw [Heap.size_push]
    rcases List.mem_cons.mp hb with rfl | hb
    · exact Nat.lt_succ_self _
    · rcases List.mem_cons.mp hb with rfl | hb
      · exact Nat.lt_succ_of_lt hlt
      · exact Nat.lt_succ_of_lt (hr _ hb)
  · intro k i j vi vj s1 Q1 E1 hi hj st q
    obtain ⟨t1, i1, rfl, p1, n1⟩ := st.2 i vi (by rw [Array.getElem?_toList]; exact hi)
    obtain ⟨t2, i2, rfl, p2, n2⟩ := st.2 j vj (by rw [Array.getElem?_toList]; exact hj)
    exact HT.lt_tupInts p1 p2 n1 n2 (show A.units + 1 < cLine by omega) q
  · exact h v h' tk hP fun b o e => hk b o (fun hm => by
      rcases List.mem_cons.mp hm with e1 | hm
      · exact absurd (e1 ▸ Heap.lt_size e) (Nat.lt_irrefl _)
      · cases hm) (Heap.get?_push_of_some _ e)
end
section
variable {X : Cx}
def rMinT (K : PySem.W.Frag) : List V → Hp → VK → Prop := fun vs H Q => ∃ (a : Addr) (xs : List V) (nss : List (List Int)), vs = [V.ref a] ∧ SqL K H a xs ∧ xs ≠ [] ∧ (∀ i x, xs[i]? = some x → TupI K H x (nss.getD i [])) ∧
  ∀ x, xs[argBest (lexB nss) (xs.length - 1)]? = some x → Q x H
theorem cr_minT (hc : X.calm = true) (hu : X.A.units + 64 < cLine) : CallR X (.builtin "min") (rMinT X.K) := by
  intro pins s σ H vs us Q I r h
  obtain ⟨a, xs, nss, rfl, hs, hne, hx, q⟩ := h
  obtain ⟨its, rv, hl, hz⟩ := I.list hs
  rw [Vals.ref1 r]
  have hlen := rv.length
  have at1 : ∀ (i : Nat) (v : Value), its[i]? = some v → ∃ x, xs[i]? = some x ∧ RelV x v := fun i v e => by
    cases hx : xs[i]? with
    | none => rw [rv.none_of hx] at e; cases e
    | some x =>
      obtain ⟨u, e1, e2⟩ := rv.get hx
      rw [e] at e1
      cases e1
      exact ⟨x, rfl, e2⟩
  refine min_tups (nss := nss) (I.ok.hd hc) hu hl.isList (fun i v e => ?_) (by rw [List.size_toArray, ← hlen]; exact List.length_pos_iff.mpr hne) fun v h' tk hv hk => ?_
  · obtain ⟨x, hx1, hx2⟩ := at1 i v (by simpa using e)
    obtain ⟨t, rfl, ht⟩ := hx i x hx1
    cases hx2
    exact tupI_raw I ht
  · rw [List.size_toArray, ← hlen] at hv
    obtain ⟨x, hx1, hx2⟩ := at1 _ v (by simpa using hv)
    exact ⟨x, H, I.kept hk, hx2, q x hx1⟩
/-- lists of tuples of ints -/
def tupsD : List D → Option (List (List Int))
  | [] => some []
  | .tup es :: ds => match intsD es, tupsD ds with
    | some ns, some nss => some (ns :: nss)
    | _, _ => none
  | _ => none
theorem tupsD.run {K : PySem.W.Frag} {M : MS} {H : Hp} : ∀ {ds : List D} {vs : List V} {nss : List (List Int)}, RpL K M H vs ds → tupsD ds = some nss → (∀ i x, vs[i]? = some x → TupI K H x (nss.getD i [])) ∧ nss.length = ds.length
  | [], _, _, .nil, e => by cases e; exact ⟨fun i x e => by simp at e, rfl⟩
  | d :: ds, v :: vs, nss, .cons q qs, e => by
    cases d with
    | tup es =>
      unfold tupsD at e
      split at e
      · rename_i ns ms h1 h2
        cases e
        obtain ⟨g1, g2⟩ := tupsD.run qs h2
        refine ⟨fun i x e => ?_, by simp [g2]⟩
        cases i with
        | zero =>
          cases e
          obtain ⟨a, ws, rfl, hq, l⟩ := q.seqT
          rw [intsD.run l h1] at hq
          exact ⟨a, rfl, hq⟩
        | succ i => exact g1 i x e
      · cases e
    | _ => cases e
def minTD : List D → Option D
  | [.lst ds] => match tupsD ds with
    | some nss => ds[argBest (lexB nss) (ds.length - 1)]?
    | none => none
  | _ => none
theorem c_minT (hc : X.calm = true) (hu : X.A.units + 64 < cLine) : ∃ r, CallR X (.builtin "min") r ∧ OpN X.K r minTD := by
  refine ⟨_, cr_minT hc hu, fun xs d e M H vs Q m qs k => ?_⟩
  unfold minTD at e
  split at e
  · obtain ⟨v, rfl, q⟩ := qs.one
    obtain ⟨a, ws, rfl, hq, l⟩ := q.seq
    split at e
    · rename_i nss h
      obtain ⟨g1, g2⟩ := tupsD.run l h
      have hl := l.length
      refine ⟨a, ws, nss, rfl, hq, fun z => ?_, g1, fun x hx => ?_⟩
      · subst z
        cases l
        cases e
      · rw [hl] at hx
        obtain ⟨x2, e2, q2⟩ := l.get e
        rw [hx] at e2
        cases e2
        exact k _ H same_rfl q2
    · cases e
  · cases e
/-! ### ranges of any ints -/
theorem turn_long {P : Program} {w : World} {K : PySem.W.Frag} {tg : Expr} (it : Addr) (lo : Int) (n : Nat) : Turn P w K tg (Itr lo n) [it] it (fun i h => IsLongIter h it (lo + (i : Nat) * 1) ((n : Int) - (i : Nat)) 1) where
  mem := List.mem_singleton.mpr rfl
  obj := fun i h st b hb => by
    obtain rfl := List.mem_singleton.mp hb
    exact ⟨_, st, fun v z => nomatch (show Data.fields _ = Data.cell v from z)⟩
  keep := fun i h h' st k => k it (List.mem_singleton.mpr rfl) _ st
  item := by
    intro X hP hw hK hc i pins s σ H E I hf st hg
    subst hP hw hK
    obtain ⟨g0, g1, g2, g3, g4, g5⟩ := hf it (List.mem_singleton.mpr rfl)
    refine (Walks.longrange (prog := X.prog) (w := X.w) (I.ok.hd hc) it lo 1 n).item i s _ _ hg st fun v h' tk hv st' kk => ?_
    obtain ⟨t, rfl⟩ := hv
    have J : Inv X pins σ H { s with heap := h', toks := tk } := I.turned (fun b o hb e => kk b o (fun z => hb (List.mem_singleton.mp z)) e) g0 g1 g3 g4 g5
    refine ⟨_, rfl, go_of (s := { s with heap := h', toks := tk }) (n := "longrange_iterator") st' rfl rfl (by decide) ⟨.int (lo + i), H, J, ⟨t, ?_⟩, ⟨rfl, rfl⟩, st', fun b hb => (hf b hb).1⟩⟩
    rw [Int.mul_one]
  done := by
    intro X hP hw hK hc i pins s σ H E I hf st hg
    subst hP hw hK
    obtain ⟨g0, g1, g2, g3, g4, g5⟩ := hf it (List.mem_singleton.mpr rfl)
    exact wpAny_pyNext_long_end (I.ok.hd hc) st (by have : n ≤ i := hg; omega) fun h' eb => ⟨rfl, I.turned (t' := s.toks) (fun b o hb e => eb b o hb e) g0 g1 g3 g4 g5⟩
  self := fun _ _ _ _ _ st h => wpAny_pyIter_longiter st h
theorem range_any {tg : Expr} {pins : List (Addr × Obj)} {σ : L2.St} {H : Hp} {s : Shared} {R : It → Hp → Prop} {E : Value → Shared → Prop} {lo hi : Int} {t u v : Tok} {tk : Nat} (I : Inv X pins σ H s) (q : R (Itr lo (hi - lo).toNat) H) :
    wpAny (model X.prog X.w) X.A (pyIter (.ref s.heap.objs.size)) (PIE X pins σ tg R) E { s with heap := s.heap.push { cls := .type "range", data := .fields #[.int lo t, .int hi u, .int 1 v] }, toks := tk } := by
  have J : Inv X pins σ H { s with heap := s.heap.push { cls := .type "range", data := .fields #[.int lo t, .int hi u, .int 1 v] }, toks := tk } := I.kept fun b o e => Heap.get?_push_of_some _ e
  have e1 : lo + ((0 : Nat) : Int) * 1 = lo := by simp
  have e2 : (((hi - lo).toNat : Nat) : Int) - ((0 : Nat) : Int) = Builtin.Range.rangeSize lo hi 1 := by rw [rangeSize_one]; split <;> omega
  have fp : ∀ b ∈ [(s.heap.push { cls := .type "range", data := .fields #[.int lo t, .int hi u, .int 1 v] }).objs.size], FpOk X pins H b := fun b hb => by
    obtain rfl := List.mem_singleton.mp hb
    exact J.fpOk (Nat.le_refl _) (J.hok.fresh (Nat.le_refl _))
  cases hs : Builtin.Range.small lo hi 1 with
  | true =>
    refine wpAny_pyIter_range (IsRange.new ..) hs ⟨_, [_], _, _, H, rfl, J.kept (t' := tk) fun b o e => Heap.get?_push_of_some _ e, turn_range _ lo (hi - lo).toNat, ?_, fp, q⟩
    show IsRangeIter _ _ (lo + ((0 : Nat) : Int) * 1) ((((hi - lo).toNat : Nat) : Int) - ((0 : Nat) : Int)) 1
    rw [e1, e2]
    exact Heap.get?_push_size _ rfl
  | false =>
    refine wpAny_pyIter_longrange (IsRange.new ..) hs ⟨_, [_], _, _, H, rfl, J.kept (t' := tk) fun b o e => Heap.get?_push_of_some _ e, turn_long _ lo (hi - lo).toNat, ?_, fp, q⟩
    show IsLongIter _ _ (lo + ((0 : Nat) : Int) * 1) ((((hi - lo).toNat : Nat) : Int) - ((0 : Nat) : Int)) 1
    rw [e1, e2]
    exact Heap.get?_push_size _ rfl
def iAny2 (ta : TA) : TI := fun σ H R => ta σ H fun vs H1 => ∃ i j : Int, vs = [.int i, .int j] ∧ R (Itr i (j - i).toNat) H1
theorem pi_any2 {tg a b : Expr} {ta : TA} {p pos : Pos} (hg : Gl X "range") (hm : X.mg "range" = none) (ha : PA X [a, b] ta) (hs : starEach [a, b] X.env = [(false, eval a X.env), (false, eval b X.env)] := by rfl) (hs2 : starEach [b] X.env = [(false, eval b X.env)] := by rfl) :
    PI X tg (.Call (.Name "range" p) [a, b] [] pos) (iAny2 ta) := ⟨fun pins s σ H R I h => by
  refine Call_ (ld_blt I hg hm (u := .type "range") (by decide +kernel) (PyProof.Rows.callWith_type1 (thn (ha.run pos pins s σ H _ I h) fun us s1 ⟨vs, H1, J, r1, i, j, e, q⟩ => ?_) (by rw [hs, hs2]) (by rw [hs2]; rfl)))
  subst e
  obtain ⟨u1, u2, rfl, ⟨t, rfl⟩, ⟨t', rfl⟩⟩ := Vals.two r1
  exact call_range_2 (range_any J q)⟩
def rngWF (f g : F D) : F (List D) := fun s => (f s).bind fun x s1 => (g s1).bind fun y s2 => match x, y with
  | .int a, .int b => .ok (rngD a b) s2
  | _, _ => .no
theorem si_rngW {B : Bs} {W : WX} {tg e e2 : Expr} {f g : F D} {p pos : Pos} (hg : Gl X "range") (hm : X.mg "range" = none) (he : SE X B W e f) (he2 : SE X B W e2 g) (hs : starEach [e, e2] X.env = [(false, eval e X.env), (false, eval e2 X.env)] := by rfl) (hs2 : starEach [e2] X.env = [(false, eval e2 X.env)] := by rfl) : SI X B W tg (.Call (.Name "range" p) [e, e2] [] pos) (rngWF f g) := by
  refine PI.imp (pi_any2 hg hm (pa_cons he (pa_cons he2 pa_nil hs2) (by rw [hs, hs2])) hs hs2) fun σ H Q ⟨M, s, r, p⟩ => ⟨M, s, r, PostI.bind p fun x s1 M1 H1 v r1 q1 ev1 p1 => ⟨M1, s1, r1, PostI.bind p1 fun y s2 M2 H2 u r2 q2 ev2 p2 => ?_⟩⟩
  split at p2
  · cases q1
    cases q2
    exact ⟨_, _, rfl, p2.out r2 wk_rng⟩
  · exact p2.elim
end
end Fx

set_option Elab.async false
set_option linter.all false
set_option maxRecDepth 100000
namespace Fx
variable [Tbl]
open PySem L2 PyProof.Rows
/-! ### the rules as a printing program uses them -/
theorem bt_len : bootBuiltins "len" = some (.builtin "len") := by decide +kernel
theorem bt_isinstance : bootBuiltins "isinstance" = some (.builtin "isinstance") := by decide +kernel
theorem bt_abs : bootBuiltins "abs" = some (.builtin "abs") := by decide +kernel
theorem bt_divmod : bootBuiltins "divmod" = some (.builtin "divmod") := by decide +kernel
theorem bt_sorted : bootBuiltins "sorted" = some (.builtin "sorted") := by decide +kernel
theorem bt_sum : bootBuiltins "sum" = some (.builtin "sum") := by decide +kernel
theorem bt_max : bootBuiltins "max" = some (.builtin "max") := by decide +kernel
theorem bt_min : bootBuiltins "min" = some (.builtin "min") := by decide +kernel
theorem bt_repr : bootBuiltins "repr" = some (.builtin "repr") := by decide +kernel
theorem bt_all : bootBuiltins "all" = some (.builtin "all") := by decide +kernel
theorem bt_any : bootBuiltins "any" = some (.builtin "any") := by decide +kernel
theorem bt_int : bootBuiltins "int" = some (.type "int") := by decide +kernel
theorem bt_bool : bootBuiltins "bool" = some (.type "bool") := by decide +kernel
theorem bt_str : bootBuiltins "str" = some (.type "str") := by decide +kernel
theorem bt_list : bootBuiltins "list" = some (.type "list") := by decide +kernel
theorem bt_tuple : bootBuiltins "tuple" = some (.type "tuple") := by decide +kernel
theorem bt_dict : bootBuiltins "dict" = some (.type "dict") := by decide +kernel
theorem bt_set : bootBuiltins "set" = some (.type "set") := by decide +kernel
theorem bt_float : bootBuiltins "float" = some (.type "float") := by decide +kernel
theorem bt_bytes : bootBuiltins "bytes" = some (.type "bytes") := by decide +kernel
theorem bt_range : bootBuiltins "range" = some (.type "range") := by decide +kernel
theorem bt_enumerate : bootBuiltins "enumerate" = some (.type "enumerate") := by decide +kernel
theorem bt_zip : bootBuiltins "zip" = some (.type "zip") := by decide +kernel
theorem bt_reversed : bootBuiltins "reversed" = some (.type "reversed") := by decide +kernel
section
variable {X : Cx} {B : Bs} {W : WX} {a b c e : Expr} {es : List Expr} {f g h : F D} {k : F (List D)} {pos : Pos}
theorem se_O {op : Operator} {o : D → D → Option D} (hK : X.K = B.K) (ho : ∃ r, OpR X (binaryOp op) r ∧ Op2 X.K r o) (ha : SE X B W a f) (hb : SE X B W b g) : SE X B W (.BinOp a op b pos) (op2F o f g) := by
  obtain ⟨r, h1, h2⟩ := ho
  exact se_bin h1 (hK ▸ h2) ha hb
theorem se_C {op : CmpOp} {o : D → D → Option D} (hK : X.K = B.K) (ho : ∃ r, OpR X (compareOp op) r ∧ Op2 X.K r o) (ha : SE X B W a f) (hb : SE X B W b g) (hm : behindInMarks op b = false := by rfl) : SE X B W (.Compare a [op] [b] pos) (op2F o f g) := by
  obtain ⟨r, h1, h2⟩ := ho
  exact se_cmp h1 (hK ▸ h2) ha hb hm
theorem st_C {op : CmpOp} {o : D → D → Option D} (hK : X.K = B.K) (ho : ∃ r, OpR X (compareOp op) r ∧ Op2 X.K r o) (ha : SE X B W a f) (hb : SE X B W b g) (hm : behindInMarks op b = false := by rfl) : ST X B W (.Compare a [op] [b] pos) (tstF (op2F o f g)) := by
  obtain ⟨r, h1, h2⟩ := ho
  exact st_cmp h1 (hK ▸ h2) ha hb hm
theorem se_CT {op : CmpOp} {o : D → D → Option D} (hK : X.K = B.K) (ho : ∃ r, OpR X (compareOp op) r ∧ Op2T X.K r o) (ha : SE X B W a f) (hb : SE X B W b g) (hm : behindInMarks op b = false := by rfl) : SE X B W (.Compare a [op] [b] pos) (op2F o f g) := by
  obtain ⟨r, h1, h2⟩ := ho
  exact se_cmpT h1 (hK ▸ h2) ha hb hm
theorem st_CT {op : CmpOp} {o : D → D → Option D} (hK : X.K = B.K) (ho : ∃ r, OpR X (compareOp op) r ∧ Op2T X.K r o) (ha : SE X B W a f) (hb : SE X B W b g) (hm : behindInMarks op b = false := by rfl) : ST X B W (.Compare a [op] [b] pos) (tstF (op2F o f g)) := by
  obtain ⟨r, h1, h2⟩ := ho
  exact st_cmpT h1 (hK ▸ h2) ha hb hm
theorem se_C2 {op op' : CmpOp} {o o' : D → D → Option D} (hK : X.K = B.K) (ho : ∃ r, OpR X (compareOp op) r ∧ Op2 X.K r o) (ho' : ∃ r, OpR X (compareOp op') r ∧ Op2 X.K r o') (ha : SE X B W a f) (hb : SE X B W b g) (hc : SE X B W c h)
    (hm : lastMarks [op, op'] [b, c] = false := by with_unfolding_all rfl) : SE X B W (.Compare a [op, op'] [b, c] pos) (chainF o o' f g h) := by
  obtain ⟨r, h1, h2⟩ := ho
  obtain ⟨r', h1', h2'⟩ := ho'
  exact se_chain h1 h1' (hK ▸ h2) (hK ▸ h2') ha hb hc hm
theorem se_neg (hK : X.K = B.K) (ha : SE X B W a f) : SE X B W (.UnaryOp .USub a pos) (op1F negD f) := by
  obtain ⟨r, h1, h2⟩ := op_negD (X := X)
  exact se_un h1 (hK ▸ h2) ha
theorem se_B {x : Str} {id : String} {p : Pos} {o : List D → Option D} (hK : X.K = B.K) (hc : ∃ r, CallR X (.builtin id) r ∧ OpN X.K r o) (hv : bootBuiltins x = some (.builtin id)) (hm : X.mg x = none) (ha : SA X B W (e :: es) k) (hg : Gl X x := by rfl) (hn : x ≠ "__name__" := by decide) (hdb : (x == ("__debug__" : Str)) = false := by decide)
    (he : starEach (e :: es) X.env = (false, eval e X.env) :: starEach es X.env := by rfl) (hpl : (backTo pos (starEach es X.env)).any (·.1) = false := by rfl) : SE X B W (.Call (.Name x p) (e :: es) [] pos) (opnF o k) := by
  obtain ⟨r, h1, h2⟩ := hc
  exact se_callB h1 (hK ▸ h2) hg hm hv ha hn hdb he hpl
theorem se_T {x : Str} {id : String} {p : Pos} {o : List D → Option D} (hK : X.K = B.K) (hc : ∃ r, CallR X (.type id) r ∧ OpN X.K r o) (hv : bootBuiltins x = some (.type id)) (hm : X.mg x = none) (ha : SA X B W (e :: es) k) (hg : Gl X x := by rfl) (hn : x ≠ "__name__" := by decide) (hdb : (x == ("__debug__" : Str)) = false := by decide)
    (he : starEach (e :: es) X.env = (false, eval e X.env) :: starEach es X.env := by rfl) (hpl : (backTo pos (starEach es X.env)).any (·.1) = false := by rfl) : SE X B W (.Call (.Name x p) (e :: es) [] pos) (opnF o k) := by
  obtain ⟨r, h1, h2⟩ := hc
  exact se_callTy h1 (hK ▸ h2) hg hm hv ha hn hdb he hpl
theorem sn_B {x : Str} {id : String} {p : Pos} {o : List D → Option (List D)} (hK : X.K = B.K) (hc : ∃ r, CallR X (.builtin id) r ∧ OpW X.K r o) (hv : bootBuiltins x = some (.builtin id)) (hm : X.mg x = none) (ha : SA X B W (e :: es) k) (hg : Gl X x := by rfl) (hn : x ≠ "__name__" := by decide) (hdb : (x == ("__debug__" : Str)) = false := by decide)
    (he : starEach (e :: es) X.env = (false, eval e X.env) :: starEach es X.env := by rfl) (hpl : (backTo pos (starEach es X.env)).any (·.1) = false := by rfl) : SN X B W (.Call (.Name x p) (e :: es) [] pos) (opnN o k) := by
  obtain ⟨r, h1, h2⟩ := hc
  exact sn_callB h1 (hK ▸ h2) hg hm hv ha hn hdb he hpl
theorem sn_T {x : Str} {id : String} {p : Pos} {o : List D → Option (List D)} (hK : X.K = B.K) (hc : ∃ r, CallR X (.type id) r ∧ OpW X.K r o) (hv : bootBuiltins x = some (.type id)) (hm : X.mg x = none) (ha : SA X B W (e :: es) k) (hg : Gl X x := by rfl) (hn : x ≠ "__name__" := by decide) (hdb : (x == ("__debug__" : Str)) = false := by decide)
    (he : starEach (e :: es) X.env = (false, eval e X.env) :: starEach es X.env := by rfl) (hpl : (backTo pos (starEach es X.env)).any (·.1) = false := by rfl) : SN X B W (.Call (.Name x p) (e :: es) [] pos) (opnN o k) := by
  obtain ⟨r, h1, h2⟩ := hc
  exact sn_callTy h1 (hK ▸ h2) hg hm hv ha hn hdb he hpl
/-! ### a, b = x, y by plain local names -/
def parG (i j : Nat) (k : F (List D)) : G := fun s => (k s).out fun ds s1 => match ds with
  | [x, y] => if okSl s1 i = true ∧ okSl (s1.set i (.va x)) j = true then .nx ((s1.set i (.va x)).set j (.va y)) else .no
  | _ => .no
def par3G (i j l : Nat) (k : F (List D)) : G := fun s => (k s).out fun ds s1 => match ds with
  | [x, y, z] => if okSl s1 i = true ∧ okSl (s1.set i (.va x)) j = true ∧ okSl ((s1.set i (.va x)).set j (.va y)) l = true then .nx (((s1.set i (.va x)).set j (.va y)).set l (.va z)) else .no
  | _ => .no
theorem ss_par {i j : Nat} {x y : Str} {px py pt : Pos} {kt k2 pt2} (hc : X.calm = true) (hN : X.N.Nodup) (hi : X.N[i]? = some x) (hj : X.N[j]? = some y) (hij : i ≠ j) (hx : X.env.scope.names.lookup x = some .local) (hy : X.env.scope.names.lookup y = some .local) (ha : SA X B W [a, b] k)
    (hw : swappedStores [.Tuple [.Name x px, .Name y py] kt pt] (.Tuple [a, b] k2 pt2) X.env = pure (some [x, y]))
    (hs : swapsWithSole [.Tuple [.Name x px, .Name y py] kt pt] (.Tuple [a, b] k2 pt2) pos.line X.env = pure false := by rfl) : SS X B W (.Assign [.Tuple [.Name x px, .Name y py] kt pt] (.Tuple [a, b] k2 pt2) pos) (parG i j k) := by
  refine PS.imp (ps_par hc hN hi hj hij hx hy ha hw hs) fun E σ H ⟨M, s, r, p⟩ => ⟨M, s, r, PostS.bind p fun ds s1 M1 H1 vs r1 q1 ev1 p1 => ?_⟩
  split at p1
  · split at p1
    · rename_i h
      obtain ⟨v, u, rfl, q1, q2⟩ := RpL.two q1
      exact ⟨v, u, rfl, p1 _ H1 M1 ((r1.put q1 (okSl.io h.1) (okSl.lt h.1)).put q2 (okSl.io h.2) (okSl.lt h.2)) .rfl⟩
    · exact p1.elim
  · exact p1.elim
theorem ss_par3 {i j l : Nat} {x y z : Str} {px py pz pt : Pos} {kt k2 pt2} (hc : X.calm = true) (hN : X.N.Nodup) (hi : X.N[i]? = some x) (hj : X.N[j]? = some y) (hl : X.N[l]? = some z) (hij : i ≠ j) (hil : i ≠ l) (hjl : j ≠ l) (hx : X.env.scope.names.lookup x = some .local) (hy : X.env.scope.names.lookup y = some .local) (hz : X.env.scope.names.lookup z = some .local) (ha : SA X B W [a, b, c] k)
    (hw : swappedStores [.Tuple [.Name x px, .Name y py, .Name z pz] kt pt] (.Tuple [a, b, c] k2 pt2) X.env = pure (some [x, y, z]))
    (hs : swapsWithSole [.Tuple [.Name x px, .Name y py, .Name z pz] kt pt] (.Tuple [a, b, c] k2 pt2) pos.line X.env = pure false := by rfl) : SS X B W (.Assign [.Tuple [.Name x px, .Name y py, .Name z pz] kt pt] (.Tuple [a, b, c] k2 pt2) pos) (par3G i j l k) := by
  refine PS.imp (ps_par3 hc hN hi hj hl hij hil hjl hx hy hz ha hw hs) fun E σ H ⟨M, s, r, p⟩ => ⟨M, s, r, PostS.bind p fun ds s1 M1 H1 vs r1 q1 ev1 p1 => ?_⟩
  split at p1
  · split at p1
    · rename_i h
      cases q1 with
      | cons q1 t =>
        obtain ⟨v, u, rfl, q2, q3⟩ := RpL.two t
        exact ⟨_, v, u, rfl, p1 _ H1 M1 (((r1.put q1 (okSl.io h.1) (okSl.lt h.1)).put q2 (okSl.io h.2.1) (okSl.lt h.2.1)).put q3 (okSl.io h.2.2) (okSl.lt h.2.2)) .rfl⟩
    · exact p1.elim
  · exact p1.elim
/-! ### more to go through -/
theorem si_lst {tg : Expr} (hK : X.K = B.K) (he : SE X B W e f) : SI X B W tg e (iterF f) := si_seq hK he
end
/-! ### what is known of the text -/
section
variable {P : Program} {w : World} {K : PySem.W.Frag} {mg : Str → Option Value} {base : Heap}
/-- the def stands under its name -/
structure FunAt (K : PySem.W.Frag) (mg : Str → Option Value) (x : Str) (st : Stmt) : Prop where
  ex : ∃ (f : Addr) (fd : FuncData), Fun K x x st f fd ∧ mg x = some (.ref f)
theorem Kn.of {x : Str} {st : Stmt} {N ps : List Str} {k n : Nat} {io : Bool} {g : G} (F : FunAt K mg x st) (S : FnScope N ps (defScope st)) (hn : N.length = n)
    (h : ∀ (f : Addr) (cdv : Value) (A : Around) (outer : List Env) (s : Shared) (H : Hp) (E : XK), Room k (cxD P w K mg base N x (defScope st) f cdv A outer s H E).A → (cxD P w K mg base N x (defScope st) f cdv A outer s H E).A.guards = some [] →
      ∀ B : Bs, B.K = K → SSs (cxD P w K mg base N x (defScope st) f cdv A outer s H E) B (fun cls d _ H => E cls d H) (defBody st) g) :
    Kn P w K mg base x x st (k + 1) io ps (bodyF n io g) := by
  subst hn
  obtain ⟨f, fd, F, hm⟩ := F.ex
  exact ⟨f, fd, F, fn_mk F S (h f), hm⟩
theorem Fun.same {x qual : Str} {st : Stmt} {f : Addr} {fd fd' : FuncData} (F : Fun K x qual st f fd) (F' : Fun K x qual st f fd') : fd = fd' := by
  obtain ⟨_, _, _, _, _, _, _, _, _, rfl, h, _⟩ := F.ex
  obtain ⟨_, _, _, _, _, _, _, _, _, rfl, h', _⟩ := F'.ex
  have e := Option.some.inj (h.symm.trans h')
  injection e with _ _ e _
  injection e
/-- a module's constant -/
structure Cn (K : PySem.W.Frag) (mg : Str → Option Value) (x : Str) (d : D) : Prop where
  ex : ∃ (v : V) (u : Value), mg x = some u ∧ RelV v u ∧ ∀ M H, Rp K M H v d
theorem Cn.glb {X : Cx} {B : Bs} {x : Str} {d : D} (c : Cn K mg x d) (h1 : X.mg = mg) (h2 : B.K = K) : Glb X B x d := by
  obtain ⟨v, u, a, b, q⟩ := c.ex
  exact ⟨v, u, h1 ▸ a, b, h2 ▸ q⟩
theorem Cn.int {x : Str} {i : Int} {t : Tok} (h : mg x = some (.int i t)) : Cn K mg x (.int i) := ⟨.int i, _, h, ⟨t, rfl⟩, fun _ _ => .int i⟩
/-- a tuple of texts -/
theorem Cn.strs {x : Str} {a : Addr} {its : Array Value} {n : Nat} {xs : List Str} (h : mg x = some (.ref a)) (hl : K.lookup a = some ⟨.type "tuple", .none, .seq its n, #[]⟩) (hz : its.size ≤ sizeLine) (hx : Vals (xs.map V.str) its.toList) : Cn K mg x (.tup (xs.map D.str)) :=
  ⟨.ref a, _, h, rfl, fun M H => .tupK ⟨_, its, n, hl, rfl, rfl, hz, hx⟩ (by
    clear hx
    induction xs with
    | nil => exact .nil
    | cons x xs ih => exact .cons (.str x) ih)⟩
end
/-- the law's promise, by what it does -/
theorem law_end_of {F : List D → FR} (hF : ∀ ns : List Int, ns.length ≤ 63 → F [.fz (ns.map .int)] = .ret (.bl true) (.l [])) (K : PySem.W.Frag) (H : Hp) (a : Addr) (ns : List Int) (hl : ns.length ≤ 63) (tk : TbOk H) (h : Rd H a (.lst (ns.map V.int)) ∨ ∀ H, SqL K H a (ns.map V.int)) :
    spF K false 1 F [.ref a] H (fun v _ => v = .bl true) fun _ _ _ => False := by
  refine ⟨rfl, fun _ => False, [.fz (ns.map .int)], fun b z => z.elim, tk, .cons ?_ .nil, ?_⟩
  · rcases h with h | h
    · exact .fz h (fun z => z) (intsD.back ns)
    · exact .fzK h (intsD.back ns)
  · rw [hF ns hl]
    intro v H' _ _ _ q
    cases q
    rfl
end Fx

set_option Elab.async false
set_option linter.all false
set_option maxRecDepth 100000
namespace Fx
variable [Tbl]
open PySem L2 PyProof.Rows
/-! ### what the functions do, step by step (for simp) -/
section
variable {s : List Sl} {i n : Nat} {d x y : D} {ds as : List D} {f g h : F D} {k kk : F (List D)} {u v : F Bool} {a : AS} {G1 G2 : G}
theorem ev_bad {α β : Type} {r : R α} {F1 : α → List Sl → R β} : r.bind F1 = match r with | .ok a s => F1 a s | .er x s => .er x s | .no => .no := rfl
theorem ev_name : nameF i s = match s[i]? with | some (.va d) => .ok d s | some (.ow m) => .ok m.d (s.set i (.va m.d)) | _ => .no := rfl
theorem ev_c : cF d s = .ok d s := rfl
theorem ev_op2 {o : D → D → Option D} : op2F o f g s = (f s).bind fun x s1 => (g s1).bind fun y s2 => toR (o x y) s2 := rfl
theorem ev_op1 {o : D → Option D} : op1F o f s = (f s).bind fun x s1 => toR (o x) s1 := rfl
theorem ev_toR1 : toR (some d) s = .ok d s := rfl
theorem ev_toRL1 : toRL (some ds) s = .ok ds s := rfl
theorem ev_nil : nilF s = .ok [] s := rfl
theorem ev_cons : consF f k s = (f s).bind fun x s1 => (k s1).bind fun xs s2 => .ok (x :: xs) s2 := rfl
theorem ev_opn {o : List D → Option D} : opnF o k s = (k s).bind fun xs s1 => toR (o xs) s1 := rfl
theorem ev_opnN {o : List D → Option (List D)} : opnN o k s = (k s).bind fun xs s1 => toRL (o xs) s1 := rfl
theorem ev_tup : tupF k s = (k s).bind fun xs s1 => if xs.length ≤ sizeLine then .ok (.tup xs) s1 else .no := rfl
theorem ev_lst : lstF k s = (k s).bind fun xs s1 => if xs.length ≤ sizeLine then .ok (.lst xs) s1 else .no := rfl
theorem ev_lstN : lstN k s = (k s).bind fun xs s1 => if xs.length ≤ sizeLine then .ok xs s1 else .no := rfl
theorem ev_new : lstF' k s = (k s).bind fun ds s1 => .ok (.lst ds) s1 := rfl
theorem ev_tst : tstF f s = (f s).bind fun x s1 => match x with | .bl b => .ok b s1 | _ => .no := rfl
theorem ev_notT : notT u s = (u s).bind fun c s1 => .ok (!c) s1 := rfl
theorem ev_andT : andT u v s = (u s).bind fun c s1 => if c = true then v s1 else .ok false s1 := rfl
theorem ev_orT : orT u v s = (u s).bind fun c s1 => if c = true then .ok true s1 else v s1 := rfl
theorem ev_notF : notF f s = (f s).bind fun x s1 => match x with | .bl b => .ok (.bl (!b)) s1 | _ => .no := rfl
theorem ev_andF : andF f g s = (f s).bind fun x s1 => match x with | .bl true => g s1 | .bl false => .ok (.bl false) s1 | _ => .no := rfl
theorem ev_orF : orF f g s = (f s).bind fun x s1 => match x with | .bl false => g s1 | .bl true => .ok (.bl true) s1 | _ => .no := rfl
theorem ev_ifF : ifF u f g s = (u s).bind fun c s1 => if c = true then f s1 else g s1 := rfl
theorem ev_yes : yesT s = .ok true s := rfl
theorem ev_iter : iterF f s = (f s).bind fun d s1 => match d with | .lst ds => .ok ds s1 | .tup ds => .ok ds s1 | .fz ds => .ok ds s1 | _ => .no := rfl
theorem ev_rng1 : rng1F f s = (f s).bind fun x s1 => match x with | .int n => if sm62 n = true then .ok (rngD 0 n) s1 else .no | _ => .no := rfl
theorem ev_rng2 : rng2F f g s = (f s).bind fun x s1 => (g s1).bind fun y s2 => match x, y with | .int a, .int b => if sm62 a = true ∧ sm62 b = true then .ok (rngD a b) s2 else .no | _, _ => .no := rfl
theorem ev_rngW : rngWF f g s = (f s).bind fun x s1 => (g s1).bind fun y s2 => match x, y with | .int a, .int b => .ok (rngD a b) s2 | _, _ => .no := rfl
theorem ev_noP : noPartF s = .ok none s := rfl
theorem ev_sl {lo hi : F (Option Int)} : slF f lo hi s = (f s).bind fun d s1 => (lo s1).bind fun l s2 => (hi s2).bind fun h s3 => toR (slD d l h) s3 := rfl
theorem ev_part : partF f s = (f s).bind fun d s1 => match d with | .int i => .ok (some i) s1 | _ => .no := rfl
-- statements
theorem ev_next : nextG s = .nx s := rfl
theorem ev_noG : noG s = .no := rfl
theorem ev_seq : seqG G1 G2 s = match G1 s with | .nx s1 => G2 s1 | .rt d s1 => .rt d s1 | .rn d s1 => .rn d s1 | .bk s1 => .bk s1 | .ct s1 => .ct s1 | .er x s1 => .er x s1 | .no => .no := rfl
theorem ev_drop : dropG f s = (f s).out fun _ s1 => .nx s1 := rfl
theorem ev_ret : retG f s = (f s).out fun d s1 => .rt d s1 := rfl
theorem ev_retN : retNG k s = (k s).out fun d s1 => .rn d s1 := rfl
theorem ev_if : ifG u G1 G2 s = (u s).out fun b s1 => if b = true then G1 s1 else G2 s1 := rfl
theorem ev_asg : asgG f a s = (f s).out fun d s1 => match a d s1 with | some s2 => .nx s2 | none => .no := rfl
theorem ev_setA : setA i d s = if okSl s i = true then some (s.set i (.va d)) else none := rfl
theorem ev_nilA : nilA [] s = some s := rfl
theorem ev_consA {b : ASs} : consA a b (d :: ds) s = (a d s).bind fun s1 => b ds s1 := rfl
theorem ev_seqT {b : ASs} : seqA n b (.tup ds) s = if ds.length = n then b ds s else none := rfl
theorem ev_seqL {b : ASs} : seqA n b (.lst ds) s = if ds.length = n then b ds s else none := rfl
theorem ev_setN : setNG i k s = (k s).out fun ds s1 => if okSl s1 i = true then .nx (s1.set i (.ow (.l ds))) else .no := rfl
def ioSl : Sl → Bool
  | .io _ => true
  | _ => false
def owSl : Sl → Bool
  | .io _ => true
  | .ow _ => true
  | _ => false
theorem ev_ok : okSl s i = match s[i]? with | some x => !ioSl x | none => false := by
  unfold okSl
  cases s[i]? with
  | none => rfl
  | some x => cases x <;> rfl
theorem ev_ioV : ioSl (.va d) = false := rfl
theorem ev_ioU : ioSl .un = false := rfl
theorem ev_ioW {m : MO} : ioSl (.ow m) = false := rfl
theorem ev_owV : owSl (.va d) = false := rfl
theorem ev_owU : owSl .un = false := rfl
/-- a slot that holds a value, or nothing -/
def Pl (x : Sl) : Prop := ioSl x = false ∧ owSl x = false
theorem Pl.va {d : D} : Pl (.va d) := ⟨rfl, rfl⟩
theorem Pl.un : Pl .un := ⟨rfl, rfl⟩
theorem ev_own : ownAt s i = match s[i]? with | some (.va (.lst ds)) => some ds | some (.ow (.l ds)) => some ds | some (.io (.l ds)) => some ds | _ => none := rfl
theorem ev_put : ownPut s i ds = match s[i]? with | some (.ow (.l _)) => some (s.set i (.ow (.l ds))) | some (.io (.l _)) => some (s.set i (.io (.l ds))) | _ => none := rfl
theorem ev_ixOwn : ixOwnF i g s = match ownAt s i with | none => .no | some _ => (g s).bind fun y s1 => match y, ownAt s1 i with | .int j, some ds => toR (atD ds j) s1 | _, _ => .no := rfl
theorem ev_lenOwn : lenOwnF i s = match ownAt s i with | some ds => .ok (.int ds.length) s | none => .no := rfl
theorem ev_setIx : setIxG i g f s = (f s).out fun y s1 => match ownAt s1 i with
  | none => .no
  | some _ => (g s1).out fun j s2 => match j, ownAt s2 i with
    | .int j, some ds => match ixN ds.length j with
      | some n => match ownPut s2 i (ds.set n y) with
        | some s3 => .nx s3
        | none => .no
      | none => .no
    | _, _ => .no := rfl
theorem ev_for : forG k a G1 s = (k s).out fun ds s1 => forL a G1 ds s1 := rfl
theorem ev_comp {vs : List Nat} : compN k vs a u f s = (k s).bind fun ds s1 =>
  if ds.length < sizeLine ∧ vs.all (okC s1) = true then match compL vs a u f ds s1 with
    | .ok ys s2 => .ok ys (restS s1 s2 vs)
    | _ => .no
  else .no := rfl
theorem ev_compL0 {vs : List Nat} : compL vs a u f [] s = .ok [] s := rfl
theorem ev_compL1 {vs : List Nat} : compL vs a u f (d :: ds) s = match a d (wipeS s vs) with
    | none => .no
    | some s1 => match u s1 with
      | .ok true s2 => match f s2 with
        | .ok y s3 => match compL vs a u f ds s3 with
          | .ok ys s4 => .ok (y :: ys) s4
          | _ => .no
        | _ => .no
      | .ok false s2 => compL vs a u f ds s2
      | _ => .no := rfl
theorem ev_okC : okC s i = match s[i]? with | some x => !owSl x | none => true := by
  unfold okC
  cases s[i]? with
  | none => rfl
  | some x => cases x <;> rfl
theorem ev_wipe1 {v : Nat} {vs : List Nat} : wipeS s (v :: vs) = (wipeS s vs).set v .un := rfl
theorem ev_wipe0 : wipeS s [] = s := rfl
theorem ev_rest1 {s3 : List Sl} {v : Nat} {vs : List Nat} : restS s s3 (v :: vs) = (restS s s3 vs).set v (s.getD v .un) := rfl
theorem ev_rest0 {s3 : List Sl} : restS s s3 [] = s3 := rfl
theorem ev_call {Fn : List D → FR} {gD : List D → List D → List D} : callF Fn n gD k kk s = (k s).bind fun ds s1 => (kk s1).bind fun es s2 => if (gD ds es).length = n then ofFR (Fn (gD ds es)) (fun _ => s2) else .no := rfl
theorem ev_callN {Fn : List D → FR} {gD : List D → List D → List D} : callN Fn n gD k kk s = (k s).bind fun ds s1 => (kk s1).bind fun es s2 => if (gD ds es).length = n then ofFRN (Fn (gD ds es)) (fun _ => s2) else .no := rfl
theorem ev_ofr {ios : MO} {w : MO → List Sl} : ofFR (.ret d ios) w = .ok d (w ios) := rfl
theorem ev_ofn {ios : MO} {w : MO → List Sl} : ofFR (.retn ds ios) w = .ok (.lst ds) (w ios) := rfl
theorem ev_ofnN {ios : MO} {w : MO → List Sl} : ofFRN (.retn ds ios) w = .ok ds (w ios) := rfl
theorem ev_mut : mutAt s i = match s[i]? with | some (.ow _) => true | some (.io _) => true | _ => false := rfl
theorem ev_mdl : (MO.l ds).d = .lst ds := rfl
theorem ev_mdi {nm : Str} {fs : List (Str × D)} : (MO.i nm fs).d = .ins nm fs := rfl
theorem ev_io {Fn : List D → FR} : callIoF Fn n i k s = if mutAt s i = true then (k s).bind fun ds s1 => if ds.length + 1 = n then match s1[i]? with
    | some (.ow as) => ofFR (Fn (as.d :: ds)) fun ios => s1.set i (.ow ios)
    | some (.io as) => ofFR (Fn (as.d :: ds)) fun ios => s1.set i (.io ios)
    | _ => .no
    else .no
  else .no := rfl
-- values
theorem ev_addI {i j : Int} : addD (.int i) (.int j) = some (.int (i + j)) := rfl
theorem ev_subI {i j : Int} : subD (.int i) (.int j) = some (.int (i - j)) := rfl
theorem ev_mulS {i j : Int} (h : CMul i j) : mulD (.int i) (.int j) = some (.int (i * j)) := if_pos (.inl h)
theorem ev_modI {i j : Int} (h : 0 < j) : modD (.int i) (.int j) = some (.int (i % j)) := if_pos h
theorem ev_fdivI {i j : Int} (h : 0 < j) (h2 : j.natAbs.log2 < 9000) : fdivD (.int i) (.int j) = some (.int (i / j)) := if_pos ⟨h, h2⟩
theorem ev_powI {i j : Int} (h : 0 ≤ j ∧ j ≤ 1000000 ∧ i.natAbs < 2 ^ 64) : powD (.int i) (.int j) = some (.int (i ^ j.toNat)) := if_pos h
theorem ev_negI {i : Int} : negD (.int i) = some (.int (-i)) := rfl
theorem ev_cmpI {p : Int → Int → Bool} {i j : Int} : cmpD p (.int i) (.int j) = some (.bl (p i j)) := rfl
theorem ev_eqI {i j : Int} : eqD (.int i) (.int j) = some (.bl (decide (i = j))) := rfl
theorem ev_neI {i j : Int} : neD (.int i) (.int j) = some (.bl (!decide (i = j))) := rfl
theorem ev_eqS {i j : Str} : eqD (.str i) (.str j) = some (.bl (decide (i = j))) := rfl
theorem ev_neS {i j : Str} : neD (.str i) (.str j) = some (.bl (!decide (i = j))) := rfl
theorem ev_intI {i : Int} : intD [.int i] = some (.int i) := rfl
theorem ev_intB {b : Bool} : intD [.bl b] = some (.int (if b then 1 else 0)) := rfl
theorem ev_absI {i : Int} : absD [.int i] = some (.int (if i < 0 then -i else i)) := rfl
theorem ev_lenL : lenD [.lst ds] = some (.int ds.length) := rfl
theorem ev_lenT : lenD [.tup ds] = some (.int ds.length) := rfl
theorem ev_ixL {j : Int} : ixD (.lst ds) (.int j) = atD ds j := rfl
theorem ev_ixT {j : Int} : ixD (.tup ds) (.int j) = atD ds j := rfl
theorem ev_at0 : atD (d :: ds) 0 = some d := by
  unfold atD ixN
  rw [if_pos (Int.le_refl 0), if_pos (by rw [List.length_cons]; omega)]
  rfl
theorem ev_at1 {e : D} : atD (d :: e :: ds) 1 = some e := by
  unfold atD ixN
  rw [if_pos (by omega), if_pos (by rw [List.length_cons, List.length_cons]; omega)]
  rfl
theorem ev_at2 {e c : D} : atD (d :: e :: c :: ds) 2 = some c := by
  unfold atD ixN
  rw [if_pos (by omega), if_pos (by rw [List.length_cons, List.length_cons, List.length_cons]; omega)]
  rfl
theorem ev_nat {i : Nat} (h : ds[i]? = some d) : atD ds (i : Int) = some d := by
  have hi : i < ds.length := (List.getElem?_eq_some_iff.mp h).1
  unfold atD ixN
  rw [if_pos (by omega), if_pos (by omega)]
  exact h
theorem ev_int {j : Int} (h0 : 0 ≤ j) (h : ds[j.toNat]? = some d) : atD ds j = some d := by
  have := ev_nat h
  rwa [Int.toNat_of_nonneg h0] at this
theorem ev_ixN {n : Nat} {j : Int} (h0 : 0 ≤ j) (h : j < n) : ixN n j = some j.toNat := by
  unfold ixN
  rw [if_pos h0, if_pos h]
theorem ev_i30 : ixN 3 0 = some 0 := rfl
theorem ev_i31 : ixN 3 1 = some 1 := rfl
theorem ev_i32 : ixN 3 2 = some 2 := rfl
theorem ev_pk1 {a : D} : pickG 1 0 [] [0] [a] [] = [a] := rfl
theorem ev_pk2 {a b : D} : pickG 2 0 [] [0, 1] [a, b] [] = [a, b] := rfl
theorem ev_pk3 {a b c : D} : pickG 3 0 [] [0, 1, 2] [a, b, c] [] = [a, b, c] := rfl
theorem ev_pk4 {a b c e : D} : pickG 4 0 [] [0, 1, 2, 3] [a, b, c, e] [] = [a, b, c, e] := rfl
theorem ev_pkw1 {a : D} : pickG 0 1 [] [0] [] [a] = [a] := rfl
theorem ev_pkw2 {a b : D} : pickG 0 2 [] [1, 0] [] [a, b] = [b, a] := rfl
theorem ev_pkv2 {a b : D} : pickG 0 2 [] [0, 1] [] [a, b] = [a, b] := rfl
theorem ev_isI {i : Int} : isD (.int i) .non = some (.bl false) := rfl
theorem ev_isN : isD .non .non = some (.bl true) := rfl
theorem ev_isB {b c : Bool} : isD (.bl b) (.bl c) = some (.bl (decide (b = c))) := rfl
theorem ev_inI {i : Int} : isNotD (.int i) .non = some (.bl true) := rfl
theorem ev_inN : isNotD .non .non = some (.bl false) := rfl
theorem ev_inB {b c : Bool} : isNotD (.bl b) (.bl c) = some (.bl (!decide (b = c))) := rfl
theorem ev_listT : listN [.tup ds] = some ds := rfl
theorem ev_listL : listN [.lst ds] = some ds := rfl
theorem ev_tupT : tupleD [.tup ds] = some (.tup ds) := rfl
theorem ev_tupL : tupleD [.lst ds] = some (.tup ds) := rfl
/-! ### loops -/
theorem forL_run {I : Nat → List Sl → Prop} : ∀ (ds : List D) (m : Nat) (s : List Sl), I m s → (∀ (j : Nat) (d : D) (s : List Sl), ds[j]? = some d → I (m + j) s → ∃ s1 s2, a d s = some s1 ∧ (G1 s1 = .nx s2 ∨ G1 s1 = .ct s2) ∧ I (m + j + 1) s2) → ∃ s', forL a G1 ds s = .nx s' ∧ I (m + ds.length) s'
  | [], m, s, h0, _ => ⟨s, rfl, h0⟩
  | d :: ds, m, s, h0, h => by
    obtain ⟨s1, s2, e1, e2, h2⟩ := h 0 d s rfl h0
    obtain ⟨s', e3, h3⟩ := forL_run (I := I) ds (m + 1) s2 h2 fun j d s e i => by
      have := h (j + 1) d s e (by rw [← Nat.add_assoc, Nat.add_right_comm]; exact i)
      rwa [← Nat.add_assoc, Nat.add_right_comm m j 1] at this
    refine ⟨s', ?_, by rw [List.length_cons, Nat.add_comm ds.length 1, ← Nat.add_assoc]; exact h3⟩
    unfold forL
    rw [e1]
    rcases e2 with e2 | e2
    · dsimp only
      rw [e2]
      exact e3
    · dsimp only
      rw [e2]
      exact e3
/-- a comprehension without a test, each turn with its own outcome -/
theorem compL_run {vs : List Nat} {I : Nat → List Sl → Prop} {Y : Nat → D → Prop} : ∀ (ds : List D) (m : Nat) (s : List Sl), I m s → (∀ (j : Nat) (d : D) (s : List Sl), ds[j]? = some d → I (m + j) s → ∃ s1 s2 s3 y, a d (wipeS s vs) = some s1 ∧ u s1 = .ok true s2 ∧ f s2 = .ok y s3 ∧ Y (m + j) y ∧ I (m + j + 1) s3) →
    ∃ ys s', compL vs a u f ds s = .ok ys s' ∧ ys.length = ds.length ∧ (∀ (j : Nat) (y : D), ys[j]? = some y → Y (m + j) y) ∧ I (m + ds.length) s'
  | [], m, s, h0, _ => ⟨[], s, rfl, rfl, fun j y e => by simp at e, h0⟩
  | d :: ds, m, s, h0, h => by
    obtain ⟨s1, s2, s3, y, e1, e2, e3, hy, h2⟩ := h 0 d s rfl h0
    obtain ⟨ys, s', e4, hl, hY, h3⟩ := compL_run (I := I) (Y := Y) ds (m + 1) s3 h2 fun j d s e i => by
      have := h (j + 1) d s e (by rw [← Nat.add_assoc, Nat.add_right_comm]; exact i)
      rwa [← Nat.add_assoc, Nat.add_right_comm m j 1] at this
    refine ⟨y :: ys, s', ?_, by rw [List.length_cons, List.length_cons, hl], fun j z e => ?_, by rw [List.length_cons, Nat.add_comm ds.length 1, ← Nat.add_assoc]; exact h3⟩
    · rw [ev_compL1, e1]
      dsimp only
      rw [e2]
      dsimp only
      rw [e3]
      dsimp only
      rw [e4]
    · cases j with
      | zero => cases e; exact hy
      | succ j =>
        have := hY j z e
        rwa [Nat.add_right_comm, Nat.add_assoc] at this
theorem rngD_length {a b : Int} : (rngD a b).length = (b - a).toNat := by
  unfold rngD
  rw [List.length_map, List.length_range]
theorem rngD_get {a b : Int} {j : Nat} {d : D} (h : (rngD a b)[j]? = some d) : d = .int (a + j) := by
  unfold rngD at h
  rw [List.getElem?_map] at h
  cases e : (List.range (b - a).toNat)[j]? with
  | none => rw [e] at h; cases h
  | some i =>
    rw [e] at h
    cases h
    obtain ⟨hi, hj⟩ := List.getElem?_eq_some_iff.mp e
    rw [List.getElem_range] at hj
    rw [hj]
end
end Fx

set_option Elab.async false
set_option linter.all false
set_option maxRecDepth 100000
namespace Fx
variable [Tbl]
open PySem L2 PyProof.Rows
/-! ### equality of lists of ints -/
theorem toPyL_ints : ∀ ns : List Int, toPyL (ns.map D.int) = some (ns.map PyData.int)
  | [] => rfl
  | n :: ns => by
    rw [List.map_cons, List.map_cons]
    unfold toPyL
    rw [toPyL_ints ns]
    rfl
theorem canLay_ints : ∀ ns : List Int, PyData.canLayAll0 (ns.map PyData.int) = true
  | [] => by simp only [List.map_nil, PyData.canLayAll0]
  | n :: ns => by
    rw [List.map_cons]
    simp only [PyData.canLayAll0, PyData.canLay0, canLay_ints ns, Bool.true_and]
theorem depth_ints : ∀ ns : List Int, PyData.depthAll (ns.map PyData.int) = 0
  | [] => by simp only [List.map_nil, PyData.depthAll]
  | n :: ns => by
    rw [List.map_cons]
    simp only [PyData.depthAll, PyData.depth, depth_ints ns, Nat.max_self]
theorem eqv_ints : ∀ ns ms : List Int, PyData.eqvAll (ns.map PyData.int) (ms.map PyData.int) = decide (ns = ms)
  | [], [] => by simp [PyData.eqvAll]
  | [], m :: ms => by simp [PyData.eqvAll]
  | n :: ns, [] => by simp [PyData.eqvAll]
  | n :: ns, m :: ms => by
    rw [List.map_cons, List.map_cons]
    unfold PyData.eqvAll PyData.eqv
    rw [eqv_ints ns ms]
    by_cases h1 : n = m
    · by_cases h2 : ns = ms
      · simp [h1, h2]
      · simp [h1, h2]
    · simp [h1]
theorem shaped_ints (ns : List Int) : SeqAt.shaped (.list (ns.map PyData.int)) = true := by
  unfold SeqAt.shaped PyData.canLay0
  rw [canLay_ints, Bool.true_and]
  refine decide_eq_true ?_
  unfold PyData.depth
  rw [depth_ints]
  decide
theorem eq_ints (ns ms : List Int) : eqD (.lst (ns.map D.int)) (.lst (ms.map D.int)) = some (.bl (decide (ns = ms))) := by
  show eqG _ _ = _
  unfold eqG toPy
  rw [toPyL_ints, toPyL_ints]
  show (if SeqAt.shaped _ = true ∧ SeqAt.shaped _ = true then _ else _) = _
  rw [if_pos ⟨shaped_ints ns, shaped_ints ms⟩]
  unfold PyData.eqv
  rw [eqv_ints]
theorem ne_ints (ns ms : List Int) : neD (.lst (ns.map D.int)) (.lst (ms.map D.int)) = some (.bl (!decide (ns = ms))) := by
  show neG _ _ = _
  unfold neG toPy
  rw [toPyL_ints, toPyL_ints]
  show (if SeqAt.shaped _ = true ∧ SeqAt.shaped _ = true then _ else _) = _
  rw [if_pos ⟨shaped_ints ns, shaped_ints ms⟩]
  unfold PyData.eqv
  rw [eqv_ints]
/-! ### what repr can show -/
mutual
def shOk : D → Bool
  | .non => true
  | .bl _ => true
  | .int i => decide (i.natAbs.log2 < 1920)
  | .str x => (PyData.str x).showable && decide ((PyData.str x).shown.length ≤ 1921)
  | .tup xs => shOkL xs
  | .lst xs => shOkL xs
  | _ => false
def shOkL : List D → Bool
  | [] => true
  | x :: xs => shOk x && shOkL xs
end
mutual
def shSz : D → Nat
  | .tup xs => shSzL xs + 3
  | .lst xs => shSzL xs + 3
  | _ => 1921
def shSzL : List D → Nat
  | [] => 0
  | x :: xs => shSz x + 2 + shSzL xs
end
mutual
def shDp : D → Nat
  | .tup xs => shDpL xs + 1
  | .lst xs => shDpL xs + 1
  | _ => 0
def shDpL : List D → Nat
  | [] => 0
  | x :: xs => max (shDp x) (shDpL xs)
end
mutual
theorem sh_py : ∀ d : D, shOk d = true → ∃ p, toPy d = some p ∧ p.showable = true ∧ p.hasDict = false ∧ p.depth = shDp d ∧ p.shown.length ≤ shSz d
  | .non, _ => ⟨.none, rfl, by simp only [PyData.showable], by simp only [PyData.hasDict], by simp only [PyData.depth, shDp], by simp only [PyData.shown, shSz]; decide⟩
  | .bl b, _ => ⟨.bool b, rfl, by simp only [PyData.showable], by simp only [PyData.hasDict], by simp only [PyData.depth, shDp], by
    simp only [PyData.shown, shSz]
    cases b <;> decide⟩
  | .int i, h => ⟨.int i, rfl, by
    simp only [PyData.showable]
    exact h, by simp only [PyData.hasDict], by simp only [PyData.depth, shDp], by
    simp only [PyData.shown, shSz]
    exact int_text_len_1921 (of_decide_eq_true h)⟩
  | .tup xs, h => by
    unfold shOk at h
    obtain ⟨ps, e, h1, h2, h3, h4, h5⟩ := sh_pyL xs h
    refine ⟨.tuple ps, by unfold toPy; rw [e]; rfl, by simp only [PyData.showable]; exact h1, by simp only [PyData.hasDict]; exact h2, by simp only [PyData.depth, shDp]; rw [h3], ?_⟩
    simp only [PyData.shown, shSz]
    refine Nat.le_trans (PySem.tupleText_len_le _) ?_
    omega
  | .lst xs, h => by
    unfold shOk at h
    obtain ⟨ps, e, h1, h2, h3, h4, h5⟩ := sh_pyL xs h
    refine ⟨.list ps, by unfold toPy; rw [e]; rfl, by simp only [PyData.showable]; exact h1, by simp only [PyData.hasDict]; exact h2, by simp only [PyData.depth, shDp]; rw [h3], ?_⟩
    simp only [PyData.shown, shSz]
    refine Nat.le_trans (PySem.listText_len_le _) ?_
    omega
  | .str x, h => by
    unfold shOk at h
    rw [Bool.and_eq_true] at h
    exact ⟨.str x, rfl, h.1, by simp only [PyData.hasDict], by simp only [PyData.depth, shDp], by
      unfold shSz
      exact of_decide_eq_true h.2⟩
  | .ref _, h => by simp [shOk] at h
  | .ty _, h => by simp [shOk] at h
  | .fz _, h => by simp [shOk] at h
  | .ins _ _, h => by simp [shOk] at h
theorem sh_pyL : ∀ ds : List D, shOkL ds = true → ∃ ps, toPyL ds = some ps ∧ PyData.showableAll ps = true ∧ PyData.hasDictAll ps = false ∧ PyData.depthAll ps = shDpL ds ∧ ps.length = ds.length ∧ ((PyData.shownAll ps).map (·.length)).sum + 2 * (PyData.shownAll ps).length ≤ shSzL ds
  | [], _ => ⟨[], rfl, by simp only [PyData.showableAll], by simp only [PyData.hasDictAll], by simp only [PyData.depthAll, shDpL], rfl, by simp only [PyData.shownAll, shSzL, List.map_nil, List.sum_nil, List.length_nil]; omega⟩
  | d :: ds, h => by
    unfold shOkL at h
    rw [Bool.and_eq_true] at h
    obtain ⟨p, e, a1, a2, a3, a4⟩ := sh_py d h.1
    obtain ⟨ps, e2, b1, b2, b3, b4, b5⟩ := sh_pyL ds h.2
    refine ⟨p :: ps, by unfold toPyL; rw [e, e2], by simp only [PyData.showableAll, a1, b1, Bool.and_self], by simp only [PyData.hasDictAll, a2, b2, Bool.or_self], by simp only [PyData.depthAll, shDpL, a3, b3], by rw [List.length_cons, List.length_cons, b4], ?_⟩
    simp only [PyData.shownAll, shSzL, List.map_cons, List.sum_cons, List.length_cons]
    omega
end
theorem repr_of {d : D} (h : shOk d = true) (h2 : shDp d < 60) (h3 : shSz d ≤ 16777216) : ∃ z, reprD [d] = some (.str z) := by
  obtain ⟨p, e, a1, a2, a3, a4⟩ := sh_py d h
  refine ⟨p.shown, ?_⟩
  unfold reprD
  dsimp only
  rw [e]
  dsimp only
  rw [if_pos ⟨a1, a2, by rw [a3]; exact h2, Nat.le_trans a4 (by rw [sizeLine_eq]; exact h3)⟩]
end Fx

set_option Elab.async false
set_option linter.all false
set_option maxRecDepth 100000
namespace Fx
variable [Tbl]
open PySem L2 PyProof.Rows
/-! ### classes of one's own -/
theorem ClsAt.uniq {K : PySem.W.Frag} {n : Str} {C C' : Addr} (h : ClsAt K n C) (h' : ClsAt K n C') : C = C' := by
  unfold ClsAt at h h'
  rw [h] at h'
  cases h'
  rfl
/-- the attribute f of the class of this name is none of the class's own -/
structure AttrOk (K : PySem.W.Frag) (n f : Str) : Prop where
  ex : ∃ C, ClsAt K n C ∧ Cls K C ∧ NoAttr K C f
theorem lookup_rp {K : PySem.W.Frag} {M : MS} {H : Hp} {f : Str} : ∀ {vs : List (Str × V)} {gs : List (Str × D)} {d : D}, vs.map (·.1) = gs.map (·.1) → RpL K M H (vs.map (·.2)) (gs.map (·.2)) → gs.lookup f = some d → ∃ v, vs.lookup f = some v ∧ Rp K M H v d
  | [], [], _, _, _, e => by cases e
  | [], _ :: _, _, h, _, _ => by cases h
  | _ :: _, [], _, h, _, _ => by cases h
  | (a, v) :: vs, (b, x) :: gs, d, h, q, e => by
    rw [List.map_cons, List.map_cons] at h q
    obtain ⟨h1, h2⟩ := List.cons.inj h
    cases q with
    | cons q qs =>
      have h1 : a = b := h1
      subst h1
      rw [List.lookup_cons] at e ⊢
      cases hf : f == a with
      | true =>
        rw [hf] at e
        cases e
        exact ⟨v, rfl, q⟩
      | false =>
        rw [hf] at e
        exact lookup_rp h2 qs e
def putD (f : Str) (d : D) : List (Str × D) → List (Str × D)
  | [] => [(f, d)]
  | (g, x) :: r => if g = f then (g, d) :: r else (g, x) :: putD f d r
theorem putF_rp {K : PySem.W.Frag} {M : MS} {H : Hp} {f : Str} {y : V} {d : D} (r : Rp K M H y d) : ∀ {vs : List (Str × V)} {gs : List (Str × D)}, vs.map (·.1) = gs.map (·.1) → RpL K M H (vs.map (·.2)) (gs.map (·.2)) →
    ∃ gs' : List (Str × D), (putF f y vs).map (·.1) = gs'.map (·.1) ∧ RpL K M H ((putF f y vs).map (·.2)) (gs'.map (·.2)) ∧ gs' = putD f d gs
  | [], [], _, _ => ⟨[(f, d)], rfl, .cons r .nil, rfl⟩
  | [], _ :: _, h, _ => by cases h
  | _ :: _, [], h, _ => by cases h
  | (a, v) :: vs, (b, x) :: gs, h, q => by
    rw [List.map_cons, List.map_cons] at h q
    obtain ⟨h1, h2⟩ := List.cons.inj h
    cases q with
    | cons q qs =>
      have h1 : a = b := h1
      subst h1
      unfold putF
      by_cases hf : a = f
      · refine ⟨(a, d) :: gs, ?_, ?_, ?_⟩
        · rw [if_pos hf, List.map_cons, List.map_cons, h2]
        · rw [if_pos hf]
          exact .cons r qs
        · unfold putD
          rw [if_pos hf]
      · obtain ⟨gs', e1, e2, e3⟩ := putF_rp (f := f) r h2 qs
        refine ⟨(a, x) :: gs', ?_, ?_, ?_⟩
        · rw [if_neg hf, List.map_cons, List.map_cons, e1]
        · rw [if_neg hf]
          exact .cons q e2
        · unfold putD
          rw [if_neg hf, e3]
section
variable {X : Cx} {B : Bs} {W : WX} {e o : Expr} {es : List Expr} {kws : List Keyword} {g f : F D} {k kk : F (List D)} {pos : Pos}
/-- e.f, e an instance of one of the classes ns -/
def fldF (ns : List Str) (f : Str) (g : F D) : F D := fun s => (g s).bind fun d s1 => match d with
  | .ins n fs => if n ∈ ns then toR (fs.lookup f) s1 else .no
  | _ => .no
theorem se_fld {ns : List Str} {f : Str} (hK : X.K = B.K) (h : ∀ n ∈ ns, AttrOk B.K n f) (he : SE X B W e g) (hb : attributeBase e f X.env (eval e X.env) = eval e X.env := by rfl) : SE X B W (.Attribute e f pos) (fldF ns f g) := by
  refine PE.imp (pe_fld he hb) fun σ H Q ⟨M, s, r, p⟩ => ⟨M, s, r, Post.bind p fun d s1 M1 H1 v r1 q1 ev1 p1 => ?_⟩
  split at p1
  · rename_i n fs
    split at p1
    · rename_i hn
      obtain ⟨C, hC, c, na⟩ := (h n hn).ex
      unfold toR at p1
      split at p1
      · rename_i d hd
        cases q1 with
        | ins h1 hm hc q l =>
          cases hC.uniq hc
          obtain ⟨w, hw, qw⟩ := lookup_rp q l hd
          rw [hK]
          exact ⟨_, _, _, _, w, rfl, h1, c, na, hw, p1.out r1 qw⟩
      · exact p1.elim
    · exact p1.elim
  · exact p1.elim
/-- self.f, self an instance that may still be changed -/
def insAt (s : List Sl) (i : Nat) : Option (Str × List (Str × D)) := match s[i]? with
  | some (.va (.ins n fs)) => some (n, fs)
  | some (.ow (.i n fs)) => some (n, fs)
  | some (.io (.i n fs)) => some (n, fs)
  | _ => none
theorem insAt.run {M : MS} {σ : L2.St} {H : Hp} {s : List Sl} {i : Nat} {n : Str} {fs : List (Str × D)} (r : SR B M σ H s) (h : insAt s i = some (n, fs)) :
    ∃ a C dx vs, σ[i]? = some (some (.ref a)) ∧ H a = some (.ins C dx vs) ∧ ClsAt B.K n C ∧ vs.map (·.1) = fs.map (·.1) ∧ RpL B.K M H (vs.map (·.2)) (fs.map (·.2)) := by
  unfold insAt at h
  split at h
  · rename_i n' fs' e
    cases h
    obtain ⟨v, e1, q⟩ := r.va i _ e
    cases q with
    | ins h1 hm hc q l => exact ⟨_, _, _, _, e1, h1, hc, q, l⟩
  · rename_i n' fs' e
    cases h
    obtain ⟨a, xs, e1, q, m, n0, l⟩ := r.ow i _ e
    cases l with
    | i hc q2 l => exact ⟨_, _, _, _, e1, q, hc, q2, l⟩
  · rename_i n' fs' e
    cases h
    obtain ⟨z, a, xs, p, e1, q, m, l⟩ := r.io i _ e
    cases l with
    | i hc q2 l => exact ⟨_, _, _, _, z ▸ e1, q, hc, q2, l⟩
  · cases h
def fldOwnF (i : Nat) (ns : List Str) (f : Str) : F D := fun s => match insAt s i with
  | some (n, fs) => if n ∈ ns then toR (fs.lookup f) s else .no
  | none => .no
theorem se_fldOwn (i : Nat) {x : Str} {p' : Pos} {ns : List Str} {f : Str} (hK : X.K = B.K) (h : ∀ n ∈ ns, AttrOk B.K n f) (hN : X.N[i]? = some x := by rfl) (hv : Vis X.env.scope x := by first | exact Or.inl rfl | exact Or.inr (Or.inl rfl) | exact Or.inr (Or.inr rfl))
    (hd : (x == ("__debug__" : Str)) = false := by decide) (hcd : (x == ("__classdict__" : Str)) = false := by decide) (hb : attributeBase (.Name x p') f X.env (eval (.Name x p') X.env) = eval (.Name x p') X.env := by rfl) :
    SE X B W (.Attribute (.Name x p') f pos) (fldOwnF i ns f) := by
  refine PE.imp (pe_fld (pe_var hN hv hd hcd) hb) fun σ H Q ⟨M, s, r, p⟩ => ?_
  unfold fldOwnF at p
  split at p
  · rename_i n fs e
    split at p
    · rename_i hn
      obtain ⟨C, hC, c, na⟩ := (h n hn).ex
      obtain ⟨a, C', dx, vs, e1, h1, hc, q, l⟩ := insAt.run r e
      cases hC.uniq hc
      unfold toR at p
      split at p
      · rename_i d hd
        obtain ⟨w, hw, qw⟩ := lookup_rp q l hd
        rw [hK]
        exact ⟨_, e1, a, _, dx, vs, w, rfl, h1, c, na, hw, p.out r qw⟩
      · exact p.elim
    · exact p.elim
  · exact p.elim
/-- self.f = e -/
def fldG (i : Nat) (ns : List Str) (f : Str) (g : F D) : G := fun s => (g s).out fun d s1 => match s1[i]? with
  | some (.ow (.i n fs)) => if n ∈ ns ∧ fs.length < 1000 then .nx (s1.set i (.ow (.i n (putD f d fs)))) else .no
  | some (.io (.i n fs)) => if n ∈ ns ∧ fs.length < 1000 then .nx (s1.set i (.io (.i n (putD f d fs)))) else .no
  | _ => .no
theorem ss_fld (i : Nat) {x : Str} {p' pos' : Pos} {ns : List Str} {f : Str} (hK : X.K = B.K) (h : ∀ n ∈ ns, AttrOk B.K n f) (he : SE X B W e g) (hN : X.N[i]? = some x := by rfl) (hv : Vis X.env.scope x := by first | exact Or.inl rfl | exact Or.inr (Or.inl rfl) | exact Or.inr (Or.inr rfl))
    (hd : (x == ("__debug__" : Str)) = false := by decide) (hcd : (x == ("__classdict__" : Str)) = false := by decide) (hs : swapsWith e (some (.Attribute (.Name x p') f pos')) pos.line X.env = pure false := by rfl) :
    SS X B W (.Assign [.Attribute (.Name x p') f pos'] e pos) (fldG i ns f g) := by
  refine PS.imp (ps_fld (pe_var hN hv hd hcd) he hs) fun E σ H ⟨M, s, r, p⟩ => ⟨M, s, r, PostS.bind p fun d s1 M1 H1 v r1 q1 ev1 p1 => ?_⟩
  have key : ∀ (io : Bool) (n : Str) (fs : List (Str × D)), s1[i]? = some (if io then Sl.io (.i n fs) else Sl.ow (.i n fs)) → n ∈ ns ∧ fs.length < 1000 → PostS B W M1 H1 (.nx (s1.set i (if io then Sl.io (.i n (putD f d fs)) else Sl.ow (.i n (putD f d fs))))) E →
      ∃ v', σ[i]? = some (some v') ∧ ∃ a C dx vs, v' = .ref a ∧ H1 a = some (.ins C dx vs) ∧ Cls X.K C ∧ NoAttr X.K C f ∧ vs.length < 1000 ∧ E.nx σ (upd H1 a (.ins C dx (putF f v vs))) := fun io n fs hs hc p2 => by
    obtain ⟨C, hC, c, na⟩ := (h n hc.1).ex
    have : ∃ a o, σ[i]? = some (some (.ref a)) ∧ H1 a = some o ∧ M1 a ∧ MR B.K M1 H1 o (.i n fs) := by
      cases io with
      | true =>
        obtain ⟨z, a, xs, p, e1, q, m, l⟩ := r1.io i _ hs
        exact ⟨a, xs, z ▸ e1, q, m, l⟩
      | false =>
        obtain ⟨a, xs, e1, q, m, n0, l⟩ := r1.ow i _ hs
        exact ⟨a, xs, e1, q, m, l⟩
    obtain ⟨a, o, e1, h1, hm, l⟩ := this
    cases l with
    | @i C' dx _ vs _ hc' q l =>
      cases hC.uniq hc'
      have hl : vs.length = fs.length := by
        have := congrArg List.length q
        rwa [List.length_map, List.length_map] at this
      have ev : Ev M1 H1 M1 (upd H1 a (.ins C dx (putF f v vs))) := ⟨fun _ z => .inl z, fun b u e n _ => by
        have hb : b ≠ a := fun z => n (by rw [z]; exact hm)
        rw [upd_ne hb]
        exact e⟩
      obtain ⟨gs, g1, g2, rfl⟩ := putF_rp (f := f) (q1.move r1.mo ev) q (l.move r1.mo ev)
      obtain ⟨rr, ev2⟩ := r1.mutated (io := io) (ds := .i n fs) (es := .i n (putD f d fs)) hs e1 upd_same (.i hC g1 g2) step_upd (r1.tb.chg (fun o' e' => by rw [h1] at e'; cases e'; exact ⟨nt_ins, fun _ z => by cases z⟩) (fun b o' n e' => by rw [upd_ne n]; exact e'))
      exact ⟨_, e1, a, C, dx, vs, rfl, h1, hK ▸ c, hK ▸ na, by rw [hl]; exact hc.2, p2 σ _ M1 rr ev2⟩
  split at p1
  · rename_i n fs hs
    split at p1
    · rename_i hc
      exact key false n fs hs hc p1
    · exact p1.elim
  · rename_i n fs hs
    split at p1
    · rename_i hc
      exact key true n fs hs hc p1
    · exact p1.elim
  · exact p1.elim
/-! ### instances are made -/
section
variable {k n : Nat} {C f : Addr} {fd : FuncData} {ps : List Str} {sp : Sp} {E : L2.St → XK} {x : Str} {p : Pos} {t tk : TA} {gv : List Value → List Value → List Value} {gV : List V → List V → List V}
theorem run_makeT {pins : List (Addr × Obj)} {σ : L2.St} {H : Hp} {s : Shared} {Q : VK} {us : List Value} {vs : List V} (Mc : Mk X.K C f) (F : FnG X.prog X.w X.K X.mg X.base k f fd ps sp) (hr : Room (k + 1) X.A) (hq : X.A.guards = some []) (hb : KBinds X.K fd ps [] gv gV) (hx : PassesAt (L2.CX X.prog X.w) X σ (E σ))
    (I : Inv X pins σ H s) (r : Vals vs us)
    (h : ∀ y dx, H y = none → H dx = none → dx ≠ y → sp (gV (.ref y :: vs) []) (upd (upd H dx (.own y)) y (.ins C dx [])) (fun v H2 => v = .non ∧ Q (.ref y) H2) (E σ)) : wpAny (model X.prog X.w) X.A (call (.ref C) us) (EP X pins σ Q) X.xe s := by
  have want := h (s.heap.objs.size + 1) s.heap.objs.size (I.hok.fresh (Nat.le_succ _)) (I.hok.fresh (Nat.le_refl _)) (Nat.ne_of_lt (Nat.lt_succ_self _))
  have J := Inv.made (C := C) I
  have rs : Vals (V.ref (s.heap.objs.size + 1) :: vs) (Value.ref (s.heap.objs.size + 1) :: us) := .cons rfl r
  have rg := hb.rel rs (.nil : Vals [] [])
  have hl : (gv (Value.ref (s.heap.objs.size + 1) :: us) []).length = ps.length := by
    rw [← rg.length]
    exact F.len _ _ _ _ want
  refine wpAny_call (make_map (f := f) I.kIn Mc.makes Mc.init (beq_iff_eq.mp Mc.fn) (codeAny_mono (F.run _ X.stack _ _ ⟨Value.ref (s.heap.objs.size + 1) :: us, []⟩ _ _ _ (E σ) (hr.make C us []) hq (J.env0.make C us []) (hb.to _ _ [] J.kIn hl) rg want) fun o s' ho => ?_))
  match o, ho with
  | .error z, ho => exact hx pins _ _ z s' J ho
  | .ok (.ret u), ho =>
    obtain ⟨v, H', J', rv, ev, q3⟩ := J.after ho
    subst ev
    exact ⟨rv, ⟨V.ref (s.heap.objs.size + 1), H', J', rfl, q3⟩⟩
def tMakeT (C : Addr) (sp : Sp) (gV : List V → List V → List V) (E : L2.St → XK) (t : TA) : TE := fun σ H Q => t σ H fun vs H1 => ∀ y dx, H1 y = none → H1 dx = none → dx ≠ y →
  sp (gV (.ref y :: vs) []) (upd (upd H1 dx (.own y)) y (.ins C dx [])) (fun v H2 => v = .non ∧ Q (.ref y) H2) (E σ)
theorem pe_makeT (Mc : Mk X.K C f) (F : FnG X.prog X.w X.K X.mg X.base k f fd ps sp) (hr : Room (k + 1) X.A) (hq : X.A.guards = some []) (hg : Gl X x) (hm : X.mg x = some (.ref C)) (hb : KBinds X.K fd ps [] gv gV) (hx : ∀ σ, PassesAt (L2.CX X.prog X.w) X σ (E σ))
    (ha : PA X (e :: es) t) (hdb : (x == ("__debug__" : Str)) = false := by decide) (he : starEach (e :: es) X.env = (false, eval e X.env) :: starEach es X.env := by rfl) (hpl : (backTo pos (starEach es X.env)).any (·.1) = false := by rfl) :
    PE X (.Call (.Name x p) (e :: es) [] pos) (tMakeT C sp gV E t) :=
  ⟨fun pins s σ H Q I h => wpAny_Call_Name_kw (ld_glob I hg hm (PySem.W.callWith_K (h₀ := X.base) I.ok.mod.kin Mc.kp (thn (ha.run pos pins s σ H _ I h) fun us s1 ⟨vs, H1, J, r, q⟩ => ⟨J.kIn, run_makeT Mc F hr hq hb (hx σ) J r q⟩) he hpl) hdb)⟩
/-- o.m(..) -/
theorem meth_run {pins : List (Addr × Obj)} {σ : L2.St} {H : Hp} {s : Shared} {Q : VK} {a : Addr} {us ws : List Value} {vs zs : List V} {ks : List Str} (F : FnG X.prog X.w X.K X.mg X.base k f fd ps sp) (hr : Room k X.A) (hq : X.A.guards = some []) (hb : KBinds X.K fd ps ks gv gV) (hx : PassesAt (L2.CX X.prog X.w) X σ (E σ))
    (I : Inv X pins σ H s) (r : Vals vs us) (rz : Vals zs ws) (h : sp (gV (.ref a :: vs) zs) H Q (E σ)) : wpAny (model X.prog X.w) X.A (call (.ref f) (.ref a :: us) (ks.zip ws)) (EP X pins σ Q) X.xe s :=
  run_fnT (us := .ref a :: us) (vs := .ref a :: vs) F hr hq hb hx I (.cons rfl r) rz h
/-- the object first, then the method is looked up, then the arguments -/
def tMethT (K : PySem.W.Frag) (C : Addr) (m : Str) (sp : Sp) (gV : List V → List V → List V) (E : L2.St → XK) (to : TE) (t tk : TA) : TE := fun σ H Q => to σ H fun v H1 => ∃ a dx fs, v = .ref a ∧ H1 a = some (.ins C dx fs) ∧ fs.lookup m = none ∧
  t σ H1 fun vs H2 => tk σ H2 fun zs H3 => sp (gV (.ref a :: vs) zs) H3 Q (E σ)
section
variable {m : Str} {apos : Pos} {to : TE} {ks : List Str} {pl : Sem Bool} (ho : PE X o to) (c : Cls X.K C) (hm : Meth X.K C m f) (F : FnG X.prog X.w X.K X.mg X.base k f fd ps sp) (hr : Room k X.A) (hq : X.A.guards = some []) (hb : KBinds X.K fd ps ks gv gV) (hx : ∀ σ, PassesAt (L2.CX X.prog X.w) X σ (E σ))
include ho c hm F hr hq hb hx
theorem pe_methTK0 (hkw : PK X kws tk) (hall : (backToKw pos (keywordEach kws X.env)).all (·.1.isSome) = true) (hks : (backToKw pos (keywordEach kws X.env)).filterMap (·.1) = ks)
    (hpl : ((backTo pos (starEach [] X.env)).any (·.1) || (backToKw pos (keywordEach kws X.env)).any (·.1.isNone)) = false)
    (ht : eval (.Call (.Attribute o m apos) [] kws pos) X.env = (do
      let ov ← eval o X.env
      standAt apos.atName
      let (f, first) ← holding [ov] (getMethod ov m pl)
      callWith pos f first (backTo pos (starEach [] X.env)) (backToKw pos (keywordEach kws X.env)))) :
    PE X (.Call (.Attribute o m apos) [] kws pos) (tMethT X.K C m sp gV E to tNil tk) := by
  refine ⟨fun pins s σ H Q I h => PySem.W.methodCall_KW (pl := pl) (thn (ho.run pins s σ H _ I h) fun u s1 ⟨x, H1, J, rx, a, dx, fs, ex, ea, l, q⟩ => ?_) ht⟩
  subst ex
  obtain rfl : u = Value.ref a := rx
  refine getmeth_ok J ea c hm l (PySem.W.callWith_KW0 (first := [.ref a]) (h₀ := X.base) J.ok.mod.kin hm.kp hall (thn (hkw.run pos pins s1 σ H1 _ J q) fun ws s2 ⟨zs, H2, J2, rz, q2⟩ => ⟨J2.kIn, ?_⟩) hpl)
  rw [hks]
  exact meth_run F hr hq hb (hx σ) J2 .nil rz q2
theorem pe_methTK (ha : PA X (e :: es) t) (hkw : PK X kws tk) (hall : (backToKw pos (keywordEach kws X.env)).all (·.1.isSome) = true) (hks : (backToKw pos (keywordEach kws X.env)).filterMap (·.1) = ks)
    (he : starEach (e :: es) X.env = (false, eval e X.env) :: starEach es X.env) (hpl : ((backTo pos (starEach (e :: es) X.env)).any (·.1) || (backToKw pos (keywordEach kws X.env)).any (·.1.isNone)) = false)
    (ht : eval (.Call (.Attribute o m apos) (e :: es) kws pos) X.env = (do
      let ov ← eval o X.env
      standAt apos.atName
      let (f, first) ← holding [ov] (getMethod ov m pl)
      callWith pos f first (backTo pos (starEach (e :: es) X.env)) (backToKw pos (keywordEach kws X.env)))) :
    PE X (.Call (.Attribute o m apos) (e :: es) kws pos) (tMethT X.K C m sp gV E to t tk) := by
  refine ⟨fun pins s σ H Q I h => PySem.W.methodCall_KW (pl := pl) (thn (ho.run pins s σ H _ I h) fun u s1 ⟨x, H1, J, rx, a, dx, fs, ex, ea, l, q⟩ => ?_) ht⟩
  subst ex
  obtain rfl : u = Value.ref a := rx
  refine getmeth_ok J ea c hm l (PySem.W.callWith_KW (first := [.ref a]) (h₀ := X.base) J.ok.mod.kin hm.kp hall (thn (ha.run pos pins s1 σ H1 _ J q) fun us s2 ⟨vs, H2, J2, r, q2⟩ => thn (hkw.run pos pins s2 σ H2 _ J2 q2) fun ws s3 ⟨zs, H3, J3, rz, q3⟩ => ⟨J3.kIn, ?_⟩) hpl he)
  rw [hks]
  exact meth_run F hr hq hb (hx σ) J3 r rz q3
end
end
/-! ### .. by functions on data -/
theorem call_post {Fn : List D → FR} {n : Nat} {M : MS} {σ : L2.St} {H : Hp} {s : List Sl} {vs : List V} {ds : List D} {Q : VK} (r : SR B M σ H s) (ql : RpL B.K M H vs ds)
    (p : Post B W (rhoD B) M H σ (if ds.length = n then ofFR (Fn ds) (fun _ => s) else .no) Q) : spF B.K false n Fn vs H Q (WE W σ) := by
  split at p
  case isFalse => exact p.elim
  case isTrue hn =>
  refine ⟨ql.length.trans hn, M, ds, r.mo, r.tb, ql, ?_⟩
  revert p
  cases Fn ds with
  | ret d ios => exact fun p v H' st tb _ q => p.gro r (gro_of rfl st tb) q
  | retn es ios => exact fun p a xs H' st tb hn hp _ q => p.gro r (gro_of rfl st tb) (.lst hp (r.mo.thereF hn) (q.move (mok_with (r.mo.gro (gro_of rfl st tb)) hp) (.sub fun _ z => .inl z)))
  | er x ios => exact fun p cls od H' st tb _ q => p cls od H' M (r.gro (gro_of rfl st tb)) q (.gro (gro_of rfl st tb))
  | no => exact fun p => p
/-- a method that is known -/
structure MKn (P : Program) (w : World) (K : PySem.W.Frag) (mg : Str → Option Value) (base : Heap) (cn m qual : Str) (st : Stmt) (k : Nat) (io : Bool) (ps : List Str) (Fn : List D → FR) : Prop where
  ex : ∃ (C f : Addr) (fd : FuncData), ClsAt K cn C ∧ Cls K C ∧ Meth K C m f ∧ Fun K m qual st f fd ∧ FnG P w K mg base k f fd ps (spF K io ps.length Fn)
structure DnM (X : Cx) (B : Bs) (W : WX) (cn m : Str) (io : Bool) (n : Nat) (Fn : List D → FR) (ks : List Str) (gD : List D → List D → List D) : Prop where
  ex : ∃ (k : Nat) (C f : Addr) (fd : FuncData) (ps : List Str) (g : List Value → List Value → List Value) (gV : List V → List V → List V), ClsAt B.K cn C ∧ Cls X.K C ∧ Meth X.K C m f ∧ FnG X.prog X.w X.K X.mg X.base k f fd ps (spF B.K io n Fn) ∧ Room k X.A ∧ X.A.guards = some [] ∧
    KBinds X.K fd ps ks g gV ∧ GD B.K gV gD
  tk : Takes X W
theorem MKn.dn {P : Program} {w : World} {K : PySem.W.Frag} {mg : Str → Option Value} {base : Heap} {cn m qual : Str} {st : Stmt} {k j : Nat} {io : Bool} {ps ks : List Str} {Fn : List D → FR} {n1 : Nat} {idx : List Nat} (kn : MKn P w K mg base cn m qual st k io ps Fn)
    (hX : X.prog = P ∧ X.w = w ∧ X.K = K ∧ X.mg = mg ∧ X.base = base) (hK : B.K = K) (hr : Room j X.A) (hk : k ≤ j) (hq : X.A.guards = some []) (tk : Takes X W) (hp : 0 < ps.length)
    (h : ∀ (kV doc pm : Value) (an : Option Addr) (cdv ct : Value) (us ws : List Value), us.length = n1 → ws.length = ks.length → bindArgs (PySem.W.fnOf m qual (defArgs st) (defBody st) (defScope st) .none kV doc pm an cdv ct) ⟨us, ks.zip ws⟩ = pure (ps.zip (idx.filterMap fun i => (us ++ ws ++ [])[i]?))) :
    DnM X B W cn m io ps.length Fn ks (pickG n1 ks.length [] idx) := by
  obtain ⟨rfl, rfl, rfl, rfl, rfl⟩ := hX
  obtain ⟨C, f, fd, hC, c, hm, F, G⟩ := kn.ex
  exact ⟨⟨k, C, f, fd, ps, _, _, hK ▸ hC, c, hm, hK ▸ G, hr.mono hk, hq, Fun.kb F hp h, pick_gd fun _ _ => .nil⟩, tk⟩
section
variable {cn m : Str} {n : Nat} {Fn : List D → FR} {ks : List Str} {gD : List D → List D → List D} {apos : Pos}
/-- o.m(e, .., k = v, ..), o of the class cn -/
def methF (cn m : Str) (Fn : List D → FR) (n : Nat) (gD : List D → List D → List D) (g : F D) (k kk : F (List D)) : F D := fun s => (g s).bind fun d s1 => match d with
  | .ins c fs => if c = cn ∧ fs.lookup m = none then (k s1).bind fun ds s2 => (kk s2).bind fun es s3 => if (gD (.ins c fs :: ds) es).length = n then ofFR (Fn (gD (.ins c fs :: ds) es)) (fun _ => s3) else .no else .no
  | _ => .no
theorem lookup_no {m : Str} : ∀ {vs : List (Str × V)} {gs : List (Str × D)}, vs.map (·.1) = gs.map (·.1) → gs.lookup m = none → vs.lookup m = none
  | [], [], _, _ => rfl
  | [], _ :: _, h, _ => by cases h
  | _ :: _, [], h, _ => by cases h
  | (a, v) :: vs, (b, x) :: gs, h, e => by
    rw [List.map_cons, List.map_cons] at h
    obtain ⟨h1, h2⟩ := List.cons.inj h
    have h1 : a = b := h1
    subst h1
    rw [List.lookup_cons] at e ⊢
    cases hf : m == a with
    | true =>
      rw [hf] at e
      cases e
    | false =>
      rw [hf] at e
      exact lookup_no h2 e
theorem meth_read {C : Addr} {gV : List V → List V → List V} {ka kk : F (List D)} {to : TE} {ta tk : TA} {σ : L2.St} {H : Hp} {Q : VK} (hC : ClsAt B.K cn C) (gd : GD B.K gV gD) (ho : ∀ Q, tP B W (rhoD B) g σ H Q → to σ H Q)
    (ha : ∀ H Q, tP B W (rhoL B) ka σ H Q → ta σ H Q) (hk : ∀ H Q, tP B W (rhoL B) kk σ H Q → tk σ H Q) (h : tP B W (rhoD B) (methF cn m Fn n gD g ka kk) σ H Q) : tMethT B.K C m (spF B.K false n Fn) gV (WE W) to ta tk σ H Q := by
  obtain ⟨M, s, r, p⟩ := h
  refine ho _ ⟨M, s, r, Post.bind p fun d s1 M1 H1 v r1 q1 ev1 p1 => ?_⟩
  split at p1
  · rename_i c fs
    split at p1
    · rename_i hc
      obtain ⟨rfl, hl⟩ := hc
      have q1' := q1
      cases q1' with
      | ins h1 hm hc q l =>
        cases hC.uniq hc
        refine ⟨_, _, _, rfl, h1, lookup_no q hl, ha _ _ ⟨M1, s1, r1, Post.bind p1 fun ds s2 M2 H2 vs r2 q2 ev2 p2 => hk _ _ ⟨M2, s2, r2, Post.bind p2 fun es s3 M3 H3 zs r3 q3 ev3 p3 => ?_⟩⟩⟩
        exact call_post r3 (gd M3 H3 _ zs _ es (.cons ((q1.move r1.mo ev2).move r2.mo ev3) (q2.move r2.mo ev3)) q3) p3
    · exact p1.elim
  · exact p1.elim
theorem se_methK0 {pl : Sem Bool} (D : DnM X B W cn m false n Fn ks gD) (he : SE X B W o g) (hkw : SK X B W kws kk) (hall : (backToKw pos (keywordEach kws X.env)).all (·.1.isSome) = true := by rfl) (hks : (backToKw pos (keywordEach kws X.env)).filterMap (·.1) = ks := by rfl)
    (hpl : ((backTo pos (starEach [] X.env)).any (·.1) || (backToKw pos (keywordEach kws X.env)).any (·.1.isNone)) = false := by rfl)
    (ht : eval (.Call (.Attribute o m apos) [] kws pos) X.env = (do
      let ov ← eval o X.env
      standAt apos.atName
      let (f, first) ← holding [ov] (getMethod ov m pl)
      callWith pos f first (backTo pos (starEach [] X.env)) (backToKw pos (keywordEach kws X.env))) := by rfl) :
    SE X B W (.Call (.Attribute o m apos) [] kws pos) (methF cn m Fn n gD g nilF kk) := by
  obtain ⟨⟨k, C, f, fd, ps, g, gV, hC, c, hm, F, hr, hq, hb, gd⟩, tk⟩ := D
  exact PE.imp (pe_methTK0 he c hm F hr hq hb (passAt tk) hkw hall hks hpl ht) fun σ H Q p => meth_read hC gd (fun _ q => q) (fun H Q ⟨M, s, r, p⟩ => p.out r .nil) (fun _ _ q => q) p
theorem se_methK {pl : Sem Bool} (D : DnM X B W cn m false n Fn ks gD) (he : SE X B W o g) (ha : SA X B W (e :: es) k) (hkw : SK X B W kws kk) (hall : (backToKw pos (keywordEach kws X.env)).all (·.1.isSome) = true := by rfl) (hks : (backToKw pos (keywordEach kws X.env)).filterMap (·.1) = ks := by rfl)
    (hst : starEach (e :: es) X.env = (false, eval e X.env) :: starEach es X.env := by rfl) (hpl : ((backTo pos (starEach (e :: es) X.env)).any (·.1) || (backToKw pos (keywordEach kws X.env)).any (·.1.isNone)) = false := by rfl)
    (ht : eval (.Call (.Attribute o m apos) (e :: es) kws pos) X.env = (do
      let ov ← eval o X.env
      standAt apos.atName
      let (f, first) ← holding [ov] (getMethod ov m pl)
      callWith pos f first (backTo pos (starEach (e :: es) X.env)) (backToKw pos (keywordEach kws X.env))) := by rfl) :
    SE X B W (.Call (.Attribute o m apos) (e :: es) kws pos) (methF cn m Fn n gD g k kk) := by
  obtain ⟨⟨k, C, f, fd, ps, g, gV, hC, c, hm, F, hr, hq, hb, gd⟩, tk⟩ := D
  exact PE.imp (pe_methTK he c hm F hr hq hb (passAt tk) ha hkw hall hks hst hpl ht) fun σ H Q p => meth_read hC gd (fun _ q => q) (fun _ _ q => q) (fun _ _ q => q) p
end
/-! ### C(e, ..) -/
structure DnC (X : Cx) (B : Bs) (W : WX) (cn : Str) (n : Nat) (Fi : List D → FR) : Prop where
  ex : ∃ (k : Nat) (C f : Addr) (fd : FuncData) (ps : List Str), ClsAt B.K cn C ∧ Mk X.K C f ∧ FnG X.prog X.w X.K X.mg X.base k f fd ps (spF B.K true n Fi) ∧ Room (k + 1) X.A ∧ X.A.guards = some [] ∧ Gl X cn ∧ X.mg cn = some (.ref C) ∧
    KBinds X.K fd ps [] (pickG n 0 [] (List.range n)) (pickG n 0 [] (List.range n))
  tk : Takes X W
/-- a class whose instances are made by its own __init__ -/
structure CKn (P : Program) (w : World) (K : PySem.W.Frag) (mg : Str → Option Value) (base : Heap) (cn qual : Str) (st : Stmt) (k : Nat) (ps : List Str) (Fi : List D → FR) : Prop where
  ex : ∃ (C f : Addr) (fd : FuncData), ClsAt K cn C ∧ Mk K C f ∧ Fun K "__init__" qual st f fd ∧ FnG P w K mg base k f fd ps (spF K true ps.length Fi) ∧ mg cn = some (.ref C)
theorem CKn.dn {P : Program} {w : World} {K : PySem.W.Frag} {mg : Str → Option Value} {base : Heap} {cn qual : Str} {st : Stmt} {k j : Nat} {ps : List Str} {Fi : List D → FR} (kn : CKn P w K mg base cn qual st k ps Fi)
    (hX : X.prog = P ∧ X.w = w ∧ X.K = K ∧ X.mg = mg ∧ X.base = base) (hK : B.K = K) (hr : Room j X.A) (hk : k + 1 ≤ j) (hq : X.A.guards = some []) (hg : Gl X cn) (tk : Takes X W) (hp : 0 < ps.length)
    (h : ∀ (kV doc pm : Value) (an : Option Addr) (cdv ct : Value) (us ws : List Value), us.length = ps.length → ws.length = ([] : List Str).length → bindArgs (PySem.W.fnOf "__init__" qual (defArgs st) (defBody st) (defScope st) .none kV doc pm an cdv ct) ⟨us, ([] : List Str).zip ws⟩ = pure (ps.zip ((List.range ps.length).filterMap fun i => (us ++ ws ++ [])[i]?))) :
    DnC X B W cn ps.length Fi := by
  obtain ⟨rfl, rfl, rfl, rfl, rfl⟩ := hX
  obtain ⟨C, f, fd, hC, Mc, F, G, hm⟩ := kn.ex
  exact ⟨⟨k, C, f, fd, ps, hK ▸ hC, Mc, hK ▸ G, hr.mono hk, hq, hg, hm, Fun.kb (ks := []) F hp h⟩, tk⟩
/-- what the making comes to: the fields -/
def madeR (cn : Str) (r : FR) : Option (Sum (List (Str × D)) XD) := match r with
  | .ret .non (.i c fs) => if c = cn then some (.inl fs) else none
  | .er x _ => some (.inr x)
  | _ => none
def makeF (cn : Str) (Fi : List D → FR) (n : Nat) (k : F (List D)) : F D := fun s => (k s).bind fun ds s1 => if ds.length + 1 = n then match madeR cn (Fi (.ins cn [] :: ds)) with
    | some (.inl fs) => .ok (.ins cn fs) s1
    | some (.inr x) => .er x s1
    | none => .no
  else .no
def makeG (i : Nat) (cn : Str) (Fi : List D → FR) (n : Nat) (k : F (List D)) : G := fun s => (k s).out fun ds s1 => if ds.length + 1 = n ∧ okSl s1 i = true then match madeR cn (Fi (.ins cn [] :: ds)) with
    | some (.inl fs) => .nx (s1.set i (.ow (.i cn fs)))
    | some (.inr x) => .er x s1
    | none => .no
  else .no
/-- the promise of __init__ at a fresh instance -/
theorem made_spec {cn : Str} {C : Addr} {n : Nat} {Fi : List D → FR} {M : MS} {σ : L2.St} {H : Hp} {s : List Sl} {vs : List V} {ds : List D} {Q' : Addr → Hp → Prop} (hC : ClsAt B.K cn C) (r : SR B M σ H s) (q : RpL B.K M H vs ds) (hn : ds.length + 1 = n)
    (kOk : ∀ fs, madeR cn (Fi (.ins cn [] :: ds)) = some (.inl fs) → ∀ y dx H' ws, H y = none → Gro H H' → H' y = some (.ins C dx ws) → ws.map (·.1) = fs.map (·.1) → RpL B.K (With M y) H' (ws.map (·.2)) (fs.map (·.2)) → MOk (With M y) H' → Q' y H')
    (kEr : ∀ x, madeR cn (Fi (.ins cn [] :: ds)) = some (.inr x) → ∀ cls od H', Gro H H' → XR B.K M H' cls od x → W cls od σ H') (hno : madeR cn (Fi (.ins cn [] :: ds)) ≠ none) :
    ∀ y dx, H y = none → H dx = none → dx ≠ y → spF B.K true n Fi (pickG n 0 [] (List.range n) (.ref y :: vs) []) (upd (upd H dx (.own y)) y (.ins C dx [])) (fun v H2 => v = .non ∧ Q' y H2) (WE W σ) := by
  intro y dx ny nd hd
  have hvl : (V.ref y :: vs).length = n := by rw [List.length_cons, q.length]; exact hn
  rw [pick_range hvl]
  have g1 : Same H (upd H dx (.own y)) := same_upd nd
  have ny1 : (upd H dx (.own y)) y = none := by rw [upd_ne hd.symm]; exact ny
  have g2 : Same H (upd (upd H dx (.own y)) y (.ins C dx [])) := fun b o e => same_upd ny1 b o (g1 b o e)
  have mW : ∀ {H' : Hp}, (∃ o, H' y = some o ∧ Mut (some o)) → Gro H H' → MOk (With M y) H' := fun {H'} hy g b z => z.elim (r.mo.gro g b) fun z => by
    obtain ⟨o, e, mu⟩ := hy
    rw [z, e]
    exact mu
  have back : ∀ {H' : Hp}, Step (ioM true (.ref y :: vs)) (upd (upd H dx (.own y)) y (.ins C dx [])) H' → TbOk H' → Gro H H' := fun {H'} st tb => ⟨fun b o e t => st b o (g2 b o e) (fun ⟨_, r', z⟩ => by
    cases z
    rw [ny] at e
    cases e) t, fun _ => tb⟩
  refine ⟨hvl, With M y, .ins cn [] :: ds, mW ⟨_, upd_same, trivial⟩ (.same g2), r.tb.same g2, ⟨y, .ins C dx [], .i cn [], vs, ds, rfl, rfl, upd_same, .inr rfl, .i hC rfl .nil, RpL.grow1 ny1 (q.move r.mo (.same g1))⟩, ?_⟩
  unfold madeR at kOk kEr hno
  revert kOk kEr hno
  cases Fi (.ins cn [] :: ds) with
  | ret d ios =>
    intro kOk kEr hno v H' st tb ir qv
    obtain ⟨a2, r2, o, h1, h2, h3⟩ := ir rfl
    cases h1
    cases h3 with
    | l h3 =>
      refine absurd ?_ hno
      cases d <;> rfl
    | @i C' dx' c ws fs hc e l =>
      cases d with
      | non =>
        cases qv
        dsimp only at kOk hno
        by_cases hcn : c = cn
        · subst hcn
          cases hC.uniq hc
          exact ⟨rfl, kOk fs (if_pos rfl) y _ H' _ ny (back st tb) h2 e l (mW ⟨_, h2, trivial⟩ (back st tb))⟩
        · exact absurd (if_neg hcn) hno
      | _ => exact absurd rfl hno
  | retn es ios => exact fun _ _ hno => absurd rfl hno
  | er x ios =>
    intro kOk kEr hno cls od H' st tb ir qx
    obtain ⟨a2, r2, o, h1, h2, h3⟩ := ir rfl
    cases h1
    exact kEr x rfl cls od H' (back st tb) (qx.sub (mW ⟨o, h2, h3.mut⟩ (back st tb)) fun _ z => .inl z)
  | no => exact fun _ _ hno => absurd rfl hno
theorem se_make {cn : Str} {p : Pos} {n : Nat} {Fi : List D → FR} (D0 : DnC X B W cn n Fi) (ha : SA X B W (e :: es) k) (hdb : (cn == ("__debug__" : Str)) = false := by decide) (he : starEach (e :: es) X.env = (false, eval e X.env) :: starEach es X.env := by rfl) (hpl : (backTo pos (starEach es X.env)).any (·.1) = false := by rfl) :
    SE X B W (.Call (.Name cn p) (e :: es) [] pos) (makeF cn Fi n k) := by
  obtain ⟨⟨k', C, f, fd, ps, hC, Mc, F, hr, hq, hg, hm, hb⟩, tk⟩ := D0
  refine PE.imp (pe_makeT Mc F hr hq hg hm hb (passAt tk) ha hdb he hpl) fun σ H Q ⟨M, s, r, p⟩ => ⟨M, s, r, Post.bind p fun ds s1 M1 H1 vs r1 q1 ev1 p1 => ?_⟩
  split at p1
  case isFalse => exact p1.elim
  case isTrue hn =>
  refine made_spec (Q' := fun y H' => Q (.ref y) H') hC r1 q1 hn (fun fs hf y dx H' ws ny g hy e l mo => ?_) (fun x hx cls od H' g qx => ?_) (fun z => ?_)
  · rw [hf] at p1
    have ny1 : ¬ M1 y := r1.mo.there ny
    exact p1 (.ref y) H' M1 (r1.gro g) (.ins hy ny1 hC e (l.move mo (.sub fun _ z => .inl z))) (.gro g)
  · rw [hx] at p1
    exact p1 cls od H' M1 (r1.gro g) qx (.gro g)
  · rw [z] at p1
    exact p1
/-- name = C(e, ..), the instance may still be changed -/
theorem ss_setMk {cn : Str} {p : Pos} {n i : Nat} {y : Str} {py : Pos} {Fi : List D → FR} (D0 : DnC X B W cn n Fi) (ha : SA X B W (e :: es) k) (hN : X.N.Nodup) (hi : X.N[i]? = some y) (hx : Loc X.env.scope y) (hs : swapsWith (.Call (.Name cn p) (e :: es) [] pos) (some (.Name y py)) py.line X.env = pure false := by rfl)
    (hf : X.fn y = true ∨ X.env.scope.names.lookup y = some .local := by first | exact .inl rfl | exact .inr rfl | assumption) (hdb : (cn == ("__debug__" : Str)) = false := by decide) (he : starEach (e :: es) X.env = (false, eval e X.env) :: starEach es X.env := by rfl) (hpl : (backTo pos (starEach es X.env)).any (·.1) = false := by rfl) (spos : Pos)
    (hs2 : swapsWith (.Call (.Name cn p) (e :: es) [] pos) (some (.Name y py)) spos.line X.env = pure false := by rfl) :
    SS X B W (.Assign [.Name y py] (.Call (.Name cn p) (e :: es) [] pos) spos) (makeG i cn Fi n k) := by
  obtain ⟨⟨k', C, f, fd, ps, hC, Mc, F, hr, hq, hg, hm, hb⟩, tk⟩ := D0
  refine PS.imp (ps_set hN hi hx (pe_makeT Mc F hr hq hg hm hb (passAt tk) ha hdb he hpl) hs2 hf) fun E σ H ⟨M, s, r, p⟩ => ⟨M, s, r, PostS.bind p fun ds s1 M1 H1 vs r1 q1 ev1 p1 => ?_⟩
  split at p1
  case isFalse => exact p1.elim
  case isTrue hn =>
  refine made_spec (Q' := fun y H' => gName i (.ref y) σ H' fun σ2 H2 => E.nx σ2 H2) hC r1 q1 hn.1 (fun fs hf y dx H' ws ny g hy e l mo => ?_) (fun x hx cls od H' g qx => ?_) (fun z => ?_)
  · rw [hf] at p1
    have hL : B.L y = none := by
      cases h : B.L y with
      | none => rfl
      | some o =>
        have := (r1.lk y o h).2.1
        rw [ny] at this
        cases this
    have rr : SR B (With M1 y) σ H' s1 := (r1.laidO (xs := .ins C dx ws) trivial ny).gro ⟨fun b o h t => by
      by_cases hb : b = y
      · subst hb
        rw [upd_same] at h
        rw [hy]
        exact h
      · rw [upd_ne hb] at h
        exact g.e b o h t, fun _ => g.t r1.tb⟩
    have h0 : Fr0 B.H0 y := by
      rcases rr.dn y (.inr rfl) with z | z
      · exact absurd (r1.up y z) (r1.mo.there ny)
      · exact z
    exact p1 _ H' _ (rr.putOw hy (.inr rfl) h0 (.i hC e l) (r1.noOw ny) hL (okSl.io hn.2) (okSl.lt hn.2)) ⟨fun c z => z.elim .inl fun z => .inr (z ▸ fr0_none ny), .gro g⟩
  · rw [hx] at p1
    exact p1 cls od σ H' M1 (r1.gro g) qx (.gro g)
  · rw [z] at p1
    exact p1
end
end Fx

set_option Elab.async false
set_option linter.all false
set_option maxRecDepth 100000
namespace PySem
open AutoSeq1 (wpAny_loadPart')
theorem meets_enumerate_newT (l : Addr) (items : Array Value) (n : Nat) (dct : Option Addr) (sl : Array (Option Value)) :
    Meets (Builtin.«enumerate.__new__» ⟨[.type "enumerate", .ref l], []⟩) (fun _ R s => s.heap.get? l = some { cls := .type "tuple", dict := dct, data := .seq items n, slots := sl } ∧
      R (.ok (.ret (.ref (s.heap.push { cls := .type "tuple_iterator", data := .fields #[.ref l, .int 0 0] }).objs.size)))
        { s with heap := (s.heap.push { cls := .type "tuple_iterator", data := .fields #[.ref l, .int 0 0] }).push { cls := .type "enumerate", data := .fields #[.none, .bool false, .ref s.heap.objs.size, rawInt 0, .none, .none] } }) :=
  .of_wp fun prog w A R s h => by
    obtain ⟨hp, g, d, tk, os⟩ := s; obtain ⟨hl, h⟩ := h
    have hsub := sub_enumerate
    have hL : Heap.IsTuple (Shared.heap ⟨hp, g, d, tk, os⟩) l items := ⟨_, hl, rfl, n, rfl⟩
    wp_walk using wpAny_loadPart' hl
    refine wpAny_stack_any fun st => wpAny_pure ?_
    split
    · rename_i c _ _ _ _ _
      cases (c == Value.type "enumerate")
      · wp_walk using wpAny_loadPart' hl, wpAny_pyIter_tuple hL
        exact ⟨_, rfl, h⟩
      · wp_walk using wpAny_loadPart' hl, wpAny_pyIter_tuple hL
        exact ⟨_, rfl, h⟩
    · wp_walk using wpAny_loadPart' hl, wpAny_pyIter_tuple hL
      exact ⟨_, rfl, h⟩
section
variable {prog : Program} {w : World} {A : Around} {E : Value → Shared → Prop} {s : Shared}
theorem call_enumerate_tuple {l : Addr} {items : Array Value} {Q : Value → Shared → Prop} (hL : s.heap.IsTuple l items)
    (h : ∀ h', IsEnum h' (s.heap.objs.size + 1) s.heap.objs.size 0 .none → h'.IsTupleIter s.heap.objs.size l 0 → h'.objs.size = s.heap.objs.size + 2 →
      (∀ b o, s.heap.get? b = some o → h'.get? b = some o) → Q (.ref (s.heap.objs.size + 1)) { s with heap := h' }) :
    wpAny (model prog w) A (call (.type "enumerate") [.ref l]) Q E s := by
  obtain ⟨⟨c, dct, dt, sl⟩, hl, hc, n, hd⟩ := hL
  replace hc : c = .type "tuple" := hc
  replace hd : dt = .seq items n := hd
  subst hc hd
  refine callType_new F.called_enumerate (by decide) (F.typeCall_enumerate_1 _) (F.newCall_enumerate_1 _) (fun obj => F.args_object_init_2 obj _) F.entry_enumerate_new
    (meets_enumerate_newT l items n dct sl) ⟨hl, ?_⟩
  have hz : (s.heap.push { cls := .type "tuple_iterator", data := .fields #[.ref l, .int 0 0] }).objs.size = s.heap.objs.size + 1 := Heap.size_push ..
  show _ ∧ _
  rw [hz]
  have he : IsEnum ((s.heap.push { cls := .type "tuple_iterator", data := .fields #[.ref l, .int 0 0] }).push
      { cls := .type "enumerate", data := .fields #[.none, .bool false, .ref s.heap.objs.size, rawInt 0, .none, .none] }) (s.heap.objs.size + 1) s.heap.objs.size 0 .none := by
    have := Heap.get?_push_size (s.heap.push { cls := .type "tuple_iterator", data := .fields #[.ref l, .int 0 0] })
      (o := { cls := .type "enumerate", data := .fields #[.none, .bool false, .ref s.heap.objs.size, rawInt 0, .none, .none] }) rfl
    rw [hz] at this; exact this
  refine ⟨⟨_, he, rfl⟩, h _ he ⟨_, Heap.get?_push_of_some _ (Heap.get?_push_size _ rfl), rfl, rfl⟩ (by rw [Heap.size_push, hz]) fun b o x => Heap.get?_push_of_some _ (Heap.get?_push_of_some _ x)⟩
end
end PySem
namespace Fx
variable [Tbl]
open PySem L2 PyProof.Rows
/-- the tuple at a, each item in a new pair -/
def IteT (K : PySem.W.Frag) (a : Addr) : It :=
  ⟨fun i H => ∃ (xs : List V) (x : V), SqT K H a xs ∧ xs[i]? = some x, fun i H v H' => ∃ T x, v = .ref T ∧ H T = none ∧ H' = upd H T (.tup [.int (i : Nat), x]) ∧ ∀ xs, SqT K H a xs → xs[i]? = some x, fun i H => ∃ xs : List V, SqT K H a xs ∧ xs.length = i⟩
theorem turn_enumT {P : Program} {w : World} {K : PySem.W.Frag} {elts : List Expr} {kk : Nat} {tpos : Pos} (a e it : Addr) :
    Turn P w K (.Tuple elts kk tpos) (IteT K a) [e, it] e (fun i h => (∃ old, IsEnum h e it ((i : Nat) : Int) old) ∧ h.IsTupleIter it a i ∧ e ≠ it ∧ a ≠ it ∧ a ≠ e) where
  mem := by simp
  obj := fun i h st b hb => by
    obtain ⟨⟨old, he⟩, ⟨o, ho, hc, hd⟩, _⟩ := st
    have e' : b = e ∨ b = it := by simpa using hb
    rcases e' with z | z
    · rw [z]; exact ⟨_, he, fun v q => nomatch q⟩
    · rw [z]; exact ⟨o, ho, fun v q => by rw [hd] at q; cases q⟩
  keep := fun i h h' st k => let ⟨⟨old, he⟩, hi, hne⟩ := st; ⟨⟨old, k e (by simp) _ he⟩, hi.at fun o q => k it (by simp) o q, hne⟩
  item := by
    intro X hP hw hK hc i pins s σ H E I hf st hg
    subst hP hw hK
    obtain ⟨⟨old, he⟩, hit, hne, hai, hae⟩ := st
    obtain ⟨xs, x, hq, hx⟩ := hg
    obtain ⟨its, rv, p, hz⟩ := I.tuple hq
    obtain ⟨u, hu, ru⟩ := rv.get hx
    have hel : e < s.heap.objs.size := Heap.lt_size he
    have hil : it < s.heap.objs.size := by obtain ⟨_, q, _⟩ := hit; exact Heap.lt_size q
    have hi : i < its.toArray.size := by
      have := (List.getElem?_eq_some_iff.mp hu).1
      simpa using this
    refine wpAny_pyNext_enum_itemD (Draws.tuple (A := X.A.in1) (show X.A.in1.handled = none from I.ok.hd hc) it a hai its.toArray) he ⟨hit, p⟩ hi hne (by simp [hne, Ne.symm hae]) fun x' h' tk hP ho hit' hT hsz hk => ?_
    have hx' : x' = u := by
      have e1 : its.toArray[i]? = some u := by simpa using hu
      rw [e1] at hP
      exact (Option.some.inj hP).symm
    subst hx'
    refine ⟨_, rfl, wpAny_letOwnedTupleGo_enum (s := { s with heap := h', toks := tk + 1 }) ho fun h'' he' sb => ?_⟩
    have hT2 : h''.get? s.heap.objs.size = some { cls := .type "tuple", data := .seq #[.int i tk, x'] } := (sb.2 _ (Nat.ne_of_gt hel)).trans hT
    have new : ObjOk X.prog X.w (upd H s.heap.objs.size (.tup [.int (i : Nat), x])) h'' s.heap.objs.size (.tup [.int (i : Nat), x]) :=
      ⟨by show 2 ≤ sizeLine; decide, [.int i tk, x'], .cons ⟨_, rfl⟩ (.cons ru .nil), ⟨_, hT2, rfl, _, rfl⟩⟩
    have I1 : Inv X pins σ (upd H s.heap.objs.size (.tup [.int (i : Nat), x])) { s with heap := h'', toks := tk + 1 } :=
      I.turnedNew (ch := [e, it]) (fun b ob hb q => (sb.2 b (fun z => hb (by simp [z]))).trans (hk b ob (fun z => hb (by simp [z])) (fun z => hb (by simp [z])) q)) hf (Nat.le_refl _) new
    refine ⟨.ref s.heap.objs.size, _, I1, rfl, ⟨_, x, rfl, I.hok.fresh (Nat.le_refl _), rfl, fun ys hy => by rw [I.tuple_inj hy hq]; exact hx⟩, ⟨⟨x', ?_⟩, hit'.1.at fun o q => (sb.2 it (Ne.symm hne)).trans q, hne, hai, hae⟩, fun b hb => ?_⟩
    · have e1 : ((i + 1 : Nat) : Int) = (i : Int) + 1 := by omega
      rw [e1]; exact he'
    · have hb' : b < s.heap.objs.size := by
        have e' : b = e ∨ b = it := by simpa using hb
        rcases e' with z | z
        · rw [z]; exact hel
        · rw [z]; exact hil
      rw [upd_ne (Nat.ne_of_lt hb')]
      exact (hf b hb).1
  done := by
    intro X hP hw hK hc i pins s σ H E I hf st hg
    subst hP hw hK
    obtain ⟨⟨old, he⟩, hit, hne, hai, hae⟩ := st
    obtain ⟨xs, hq, hx⟩ := hg
    obtain ⟨its, rv, p, hz⟩ := I.tuple hq
    obtain ⟨f0, f1, f2, f3, f4, f5⟩ := hf it (by simp)
    have hl := rv.length
    have e : i = its.toArray.size := by simp; omega
    subst e
    exact wpAny_pyNext_enum_endD (Draws.tuple (A := X.A.in1) (show X.A.in1.handled = none from I.ok.hd hc) it a hai its.toArray) he ⟨hit, p⟩ fun h' eb => ⟨rfl, I.turned (t' := s.toks) (fun b o hb q => eb b o hb q) f0 f1 f3 f4 f5⟩
  self := fun A i s Q E st h => let ⟨⟨_, he⟩, _⟩ := st; wpAny_pyIter_enum he h

def iEnumT (K : PySem.W.Frag) (ta : TA) : TI := fun σ H R => ta σ H fun vs H1 => ∃ a xs, vs = [.ref a] ∧ ((SqL K H1 a xs ∧ R (Ite K a) H1) ∨ (SqT K H1 a xs ∧ R (IteT K a) H1))
theorem pi_enumT {X : Cx} {e : Expr} {ta : TA} {p pos tpos : Pos} {elts : List Expr} {kk : Nat} (hg : Gl X "enumerate") (hm : X.mg "enumerate" = none) (ha : PA X [e] ta) (hs : starEach [e] X.env = [(false, eval e X.env)] := by rfl) :
    PI X (.Tuple elts kk tpos) (.Call (.Name "enumerate" p) [e] [] pos) (iEnumT X.K ta) := by
  refine ⟨fun pins s σ H R I h => ?_⟩
  refine Call_ (ld_blt I hg hm boot_enumerate (PyProof.Rows.callWith_type1 (thn (ha.run pos pins s σ H _ I h) fun us s1 ⟨vs, H1, I1, r1, q1⟩ => ?_) hs rfl))
  obtain ⟨a, xs, ex, q⟩ := q1
  subst ex
  cases r1 with
  | cons r rr =>
    cases rr
    cases r
    have fresh : ∀ b, b ∈ [s1.heap.objs.size + 1, s1.heap.objs.size] → FpOk X pins H1 b := fun b hb => by
      have e' : b = s1.heap.objs.size + 1 ∨ b = s1.heap.objs.size := by simpa using hb
      have hle : s1.heap.objs.size ≤ b := by
        rcases e' with z | z
        · rw [z]; exact Nat.le_add_right _ _
        · rw [z]; exact Nat.le_refl _
      exact I1.fpOk hle (I1.hok.fresh hle)
    rcases q with ⟨hq, q⟩ | ⟨hq, q⟩
    · obtain ⟨its, rv, p', hz⟩ := I1.list hq
      refine call_enumerate_list p'.isList fun h' he hit hsz hk => wpAny_pyIter_enum he ?_
      have I2 : Inv X pins σ H1 { s1 with heap := h' } := I1.kept (t' := s1.toks) hk
      exact ⟨s1.heap.objs.size + 1, [s1.heap.objs.size + 1, s1.heap.objs.size], _, _, H1, rfl, I2, turn_enum a (s1.heap.objs.size + 1) s1.heap.objs.size, ⟨⟨.none, he⟩, hit, Nat.succ_ne_self _⟩, fresh, q⟩
    · obtain ⟨its, rv, p', hz⟩ := I1.tuple hq
      obtain ⟨oa, hoa, _⟩ := id p'
      have la : a < s1.heap.objs.size := Heap.lt_size hoa
      refine call_enumerate_tuple (show s1.heap.IsTuple a its.toArray from p') fun h' he hit hsz hk => wpAny_pyIter_enum he ?_
      have I2 : Inv X pins σ H1 { s1 with heap := h' } := I1.kept (t' := s1.toks) hk
      exact ⟨s1.heap.objs.size + 1, [s1.heap.objs.size + 1, s1.heap.objs.size], _, _, H1, rfl, I2, turn_enumT a (s1.heap.objs.size + 1) s1.heap.objs.size, ⟨⟨.none, he⟩, hit, Nat.succ_ne_self _, Nat.ne_of_lt la, Nat.ne_of_lt (Nat.lt_succ_of_lt la)⟩, fresh, q⟩
/-! ### lists and tuples alike -/
def SqB (K : PySem.W.Frag) (t : Bool) (H : Hp) (a : Addr) (xs : List V) : Prop := match t with
  | false => SqL K H a xs
  | true => SqT K H a xs
def IterB (t : Bool) (h : Heap) (it a : Addr) (i : Nat) : Prop := match t with
  | false => h.IsListIter it a i
  | true => h.IsTupleIter it a i
def IsB (t : Bool) (h : Heap) (a : Addr) (its : Array Value) : Prop := match t with
  | false => h.IsList a its
  | true => h.IsTuple a its
def itObj (t : Bool) (a : Addr) : Obj := match t with
  | false => { cls := .type "list_iterator", data := .fields #[.ref a, .int 0 0] }
  | true => { cls := .type "tuple_iterator", data := .fields #[.ref a, .int 0 0] }
theorem IterB.obj {t : Bool} {h : Heap} {it a : Addr} {i : Nat} (st : IterB t h it a i) : ∃ o, h.get? it = some o ∧ ∀ v, o.data ≠ .cell v := by
  cases t with
  | false => obtain ⟨o, ho, hc, hd⟩ := st; exact ⟨o, ho, fun v q => by rw [hd] at q; cases q⟩
  | true => obtain ⟨o, ho, hc, hd⟩ := st; exact ⟨o, ho, fun v q => by rw [hd] at q; cases q⟩
theorem IterB.at {t : Bool} {h h' : Heap} {it a : Addr} {i : Nat} (st : IterB t h it a i) (k : ∀ o, h.get? it = some o → h'.get? it = some o) : IterB t h' it a i := by
  cases t with
  | false => exact Heap.IsListIter.at st k
  | true => exact Heap.IsTupleIter.at st k
theorem IterB.new {t : Bool} {h : Heap} {it a : Addr} (e : h.get? it = some (itObj t a)) : IterB t h it a 0 := by
  cases t with
  | false => exact ⟨_, e, rfl, rfl⟩
  | true => exact ⟨_, e, rfl, rfl⟩
theorem drawsB {prog : Program} {w : World} {A : Around} (t : Bool) (hh : A.handled = none) (it a : Addr) (hne : a ≠ it) (items : Array Value) :
    Draws prog w A it [it, a] items.size (fun i v => items[i]? = some v) (fun i h => IterB t h it a i ∧ IsB t h a items) := by
  cases t with
  | false => exact Draws.list hh it a hne items
  | true => exact Draws.tuple hh it a hne items
theorem begB (t : Bool) (a : Addr) (items : Array Value) : Begins (.ref a) (itObj t a) fun h => IsB t h a items := by
  cases t with
  | false => exact begins_list a items
  | true => exact begins_tuple a items
theorem IsB.lt {t : Bool} {h : Heap} {a : Addr} {its : Array Value} (p : IsB t h a its) : a < h.objs.size := by
  cases t with
  | false => obtain ⟨o, ho, _⟩ := id p; exact Heap.lt_size ho
  | true => obtain ⟨o, ho, _⟩ := id p; exact Heap.lt_size ho
theorem seqB {X : Cx} {pins : List (Addr × Obj)} {σ : L2.St} {H : Hp} {s : Shared} {t : Bool} {a : Addr} {xs : List V} (I : Inv X pins σ H s) (h : SqB X.K t H a xs) : ∃ its : List Value, Vals xs its ∧ IsB t s.heap a its.toArray ∧ ∀ ys, SqB X.K t H a ys → ys = xs := by
  cases t with
  | false =>
    obtain ⟨its, rv, p, hz⟩ := I.list h
    exact ⟨its, rv, p.isList, fun ys hy => I.list_inj hy h⟩
  | true =>
    obtain ⟨its, rv, p, hz⟩ := I.tuple h
    exact ⟨its, rv, p, fun ys hy => I.tuple_inj hy h⟩
/-- two things, lists or tuples, as they stand at each turn, the items in new pairs -/
def ItzB (K : PySem.W.Frag) (t1 t2 : Bool) (a b : Addr) : It :=
  ⟨fun i H => ∃ (xs ys : List V) (x y : V), SqB K t1 H a xs ∧ SqB K t2 H b ys ∧ xs[i]? = some x ∧ ys[i]? = some y,
    fun i H v H' => ∃ T x y, v = .ref T ∧ H T = none ∧ H' = upd H T (.tup [x, y]) ∧ (∀ xs, SqB K t1 H a xs → xs[i]? = some x) ∧ ∀ ys, SqB K t2 H b ys → ys[i]? = some y,
    fun i H => ∃ xs ys : List V, SqB K t1 H a xs ∧ SqB K t2 H b ys ∧ i ≤ xs.length ∧ i ≤ ys.length ∧ (i = xs.length ∨ i = ys.length)⟩
theorem turn_zipB {P : Program} {w : World} {K : PySem.W.Frag} {elts : List Expr} {kk : Nat} {tpos : Pos} {t1 t2 : Bool} {a b z TI TO i1 i2 : Addr} (D : ZipSep2 z TI TO i1 i2 [i1, a] [i2, b]) (n1 : a ≠ i1) (n2 : b ≠ i2) :
    Turn P w K (.Tuple elts kk tpos) (ItzB K t1 t2 a b) [z, TI, TO, i1, i2] z (fun i h => IsZip h z TI TO .none ∧ IsPair h TI (.ref i1) (.ref i2) ∧ (∃ x y, IsPair h TO x y) ∧ IterB t1 h i1 a i ∧ IterB t2 h i2 b i) where
  mem := by simp
  obj := fun i h st c hc => by
    obtain ⟨hz, hTI, ⟨x, y, hTO⟩, h1, h2⟩ := st
    have e' : c = z ∨ c = TI ∨ c = TO ∨ c = i1 ∨ c = i2 := by simpa using hc
    rcases e' with q | q | q | q | q
    · rw [q]; exact ⟨_, hz, fun v q => nomatch q⟩
    · rw [q]; exact ⟨_, hTI, fun v q => nomatch q⟩
    · rw [q]; exact ⟨_, hTO, fun v q => nomatch q⟩
    · rw [q]; exact h1.obj
    · rw [q]; exact h2.obj
  keep := fun i h h' st k => by
    obtain ⟨hz, hTI, ⟨x, y, hTO⟩, h1, h2⟩ := st
    exact ⟨k z (by simp) _ hz, k TI (by simp) _ hTI, ⟨x, y, k TO (by simp) _ hTO⟩, h1.at fun o q => k i1 (by simp) o q, h2.at fun o q => k i2 (by simp) o q⟩
  item := by
    intro X hP hw hK hc i pins s σ H E I hf st hg
    subst hP hw hK
    obtain ⟨hz, hTI, ⟨x0, y0, hTO⟩, h1, h2⟩ := st
    obtain ⟨xs, ys, x, y, hqx, hqy, hx, hy⟩ := hg
    obtain ⟨its, rv, p, inj1⟩ := seqB I hqx
    obtain ⟨its2, rv2, p2, inj2⟩ := seqB I hqy
    obtain ⟨u, hu, ru⟩ := rv.get hx
    obtain ⟨u2, hu2, ru2⟩ := rv2.get hy
    have hzl : z < s.heap.objs.size := Heap.lt_size hz
    have q1 : i < its.toArray.size := by have := (List.getElem?_eq_some_iff.mp hu).1; simpa using this
    have q2 : i < its2.toArray.size := by have := (List.getElem?_eq_some_iff.mp hu2).1; simpa using this
    refine wpAny_pyNext_zipD2_item D (drawsB (A := X.A.in1) t1 (show X.A.in1.handled = none from I.ok.hd hc) i1 a n1 its.toArray) (drawsB (A := X.A.in1) t2 (show X.A.in1.handled = none from I.ok.hd hc) i2 b n2 its2.toArray) hz hTI hTO ⟨h1, p⟩ ⟨h2, p2⟩ q1 q2 fun x' x2' h' tk hP1 hP2 z' TO' st1' st2' hT hsz hk => ?_
    have ex1 : x' = u := by
      have e1 : its.toArray[i]? = some u := by simpa using hu
      rw [e1] at hP1
      exact (Option.some.inj hP1).symm
    have ex2 : x2' = u2 := by
      have e1 : its2.toArray[i]? = some u2 := by simpa using hu2
      rw [e1] at hP2
      exact (Option.some.inj hP2).symm
    subst ex1 ex2
    refine ⟨_, rfl, wpAny_letOwnedTupleGo_zip (s := { s with heap := h', toks := tk }) z' fun h'' z'' sb => ?_⟩
    have hT2 : h''.get? s.heap.objs.size = some { cls := .type "tuple", data := .seq #[x', x2'] } := (sb.2 _ (Nat.ne_of_gt hzl)).trans hT
    have new : ObjOk X.prog X.w (upd H s.heap.objs.size (.tup [x, y])) h'' s.heap.objs.size (.tup [x, y]) :=
      ⟨by show 2 ≤ sizeLine; decide, [x', x2'], .cons ru (.cons ru2 .nil), ⟨_, hT2, rfl, _, rfl⟩⟩
    have I1 : Inv X pins σ (upd H s.heap.objs.size (.tup [x, y])) { s with heap := h'', toks := tk } :=
      I.turnedNew (t' := tk) (ch := [z, TI, TO, i1, i2]) (fun c o hb q => (sb.2 c (fun q' => hb (by simp [q']))).trans (hk c o (fun q' => hb (by simp [q'])) (fun q' => hb (by simp [q'])) (fun q' => hb (by simp [q'])) (fun q' => hb (by simp [q'])) q)) hf (Nat.le_refl _) new
    refine ⟨.ref s.heap.objs.size, _, I1, rfl, ⟨_, x, y, rfl, I.hok.fresh (Nat.le_refl _), rfl, fun l hl => by rw [inj1 l hl]; exact hx, fun l hl => by rw [inj2 l hl]; exact hy⟩, ⟨z'', ?_, ⟨x', x2', ?_⟩, ?_, ?_⟩, fun c hcm => ?_⟩
    · exact (sb.2 _ D.TIz).trans (hk _ _ D.TIz D.TITO D.TIi1 D.TIi2 hTI)
    · exact (sb.2 _ D.TOz).trans TO'
    · exact st1'.1.at fun o q => (sb.2 _ (Ne.symm D.zi1)).trans q
    · exact st2'.1.at fun o q => (sb.2 _ (Ne.symm D.zi2)).trans q
    · have hlt : c < s.heap.objs.size := by
        have e' : c = z ∨ c = TI ∨ c = TO ∨ c = i1 ∨ c = i2 := by simpa using hcm
        rcases e' with q | q | q | q | q
        · rw [q]; exact hzl
        · rw [q]; exact Heap.lt_size hTI
        · rw [q]; exact Heap.lt_size hTO
        · rw [q]; obtain ⟨_, e1, _⟩ := h1.obj; exact Heap.lt_size e1
        · rw [q]; obtain ⟨_, e2, _⟩ := h2.obj; exact Heap.lt_size e2
      rw [upd_ne (Nat.ne_of_lt hlt)]
      exact (hf c hcm).1
  done := by
    intro X hP hw hK hc i pins s σ H E I hf st hg
    subst hP hw hK
    obtain ⟨hz, hTI, ⟨x0, y0, hTO⟩, h1, h2⟩ := st
    obtain ⟨xs, ys, hqx, hqy, l1, l2, hend⟩ := hg
    obtain ⟨its, rv, p, inj1⟩ := seqB I hqx
    obtain ⟨its2, rv2, p2, inj2⟩ := seqB I hqy
    have e1 := rv.length
    have e2 := rv2.length
    have s1 : its.toArray.size = its.length := by simp
    have s2 : its2.toArray.size = its2.length := by simp
    exact wpAny_pyNext_zipD2_end D (drawsB (A := X.A.in1) t1 (show X.A.in1.handled = none from I.ok.hd hc) i1 a n1 its.toArray) (drawsB (A := X.A.in1) t2 (show X.A.in1.handled = none from I.ok.hd hc) i2 b n2 its2.toArray) hz hTI hTO ⟨h1, p⟩ ⟨h2, p2⟩ (by omega) (by omega) (by omega) fun h' tk hk => ⟨rfl, I.turnedL (t' := tk) (ch := [z, TI, TO, i1, i2]) (fun c o hb q =>
      hk c o (fun q' => hb (by simp [q'])) (fun q' => hb (by simp [q'])) (fun q' => hb (by simp [q'])) (fun q' => hb (by simp [q'])) q) hf⟩
  self := fun A i s Q E st h => wpAny_pyIter_zip st.1 h
def iZipB (K : PySem.W.Frag) (ta : TA) : TI := fun σ H R => ta σ H fun vs H1 => ∃ t1 t2 a b xs ys, vs = [.ref a, .ref b] ∧ SqB K t1 H1 a xs ∧ SqB K t2 H1 b ys ∧ R (ItzB K t1 t2 a b) H1
theorem pi_zipB {X : Cx} {e e2 : Expr} {ta : TA} {p pos tpos : Pos} {elts : List Expr} {kk : Nat} (hg : Gl X "zip") (hm : X.mg "zip" = none) (ha : PA X [e, e2] ta)
    (hs : starEach [e, e2] X.env = (false, eval e X.env) :: starEach [e2] X.env := by rfl) (hpl : (backTo pos (starEach [e2] X.env)).any (·.1) = false := by rfl) :
    PI X (.Tuple elts kk tpos) (.Call (.Name "zip" p) [e, e2] [] pos) (iZipB X.K ta) := by
  refine ⟨fun pins s σ H R I h => ?_⟩
  refine Call_ (ld_blt I hg hm PyProof.Rows.boot_zip (PyProof.Rows.callWith_type1 (thn (ha.run pos pins s σ H _ I h) fun us s1 ⟨vs, H1, I1, r1, q1⟩ => ?_) hs hpl))
  obtain ⟨t1, t2, a, b, xs, ys, ex, hqx, hqy, q⟩ := q1
  subst ex
  cases r1 with
  | cons r rr =>
    cases rr with
    | cons r' rr =>
      cases rr
      cases r
      cases r'
      have fresh5 : ∀ c, c ∈ [s1.heap.objs.size + 4, s1.heap.objs.size + 2, s1.heap.objs.size + 3, s1.heap.objs.size, s1.heap.objs.size + 1] → FpOk X pins H1 c := fun c hcm => by
        have e' : c = s1.heap.objs.size + 4 ∨ c = s1.heap.objs.size + 2 ∨ c = s1.heap.objs.size + 3 ∨ c = s1.heap.objs.size ∨ c = s1.heap.objs.size + 1 := by simpa using hcm
        have hle : s1.heap.objs.size ≤ c := by
          rcases e' with z | z | z | z | z
          · rw [z]; exact Nat.le_add_right _ _
          · rw [z]; exact Nat.le_add_right _ _
          · rw [z]; exact Nat.le_add_right _ _
          · rw [z]; exact Nat.le_refl _
          · rw [z]; exact Nat.le_add_right _ _
        exact I1.fpOk hle (I1.hok.fresh hle)
      obtain ⟨its, rv, p1, _⟩ := seqB I1 hqx
      obtain ⟨its2, rv2, p2, _⟩ := seqB I1 hqy
      refine zip_begins2 (begB t1 a its.toArray) (begB t2 b its2.toArray) p1 p2 fun h' hz hTI hTO h1 h2 hsz hk => wpAny_pyIter_zip hz ?_
      have I2 : Inv X pins σ H1 { s1 with heap := h' } := I1.kept (t' := s1.toks) hk
      have la := p1.lt
      have lb := p2.lt
      have sep := zip_sep2 (N := s1.heap.objs.size) (fp1 := [a]) (fp2 := [b]) (fun c hc => by rw [List.mem_singleton.mp hc]; exact la) (fun c hc => by rw [List.mem_singleton.mp hc]; exact lb)
      exact ⟨s1.heap.objs.size + 4, [s1.heap.objs.size + 4, s1.heap.objs.size + 2, s1.heap.objs.size + 3, s1.heap.objs.size, s1.heap.objs.size + 1], _, _, H1, rfl, I2, turn_zipB sep (Nat.ne_of_lt la) (Nat.ne_of_lt (Nat.lt_succ_of_lt lb)), ⟨hz, hTI, ⟨_, _, hTO⟩, .new h1, .new h2⟩, fresh5, q⟩
end Fx
namespace Fx
variable [Tbl]
open PySem L2 PyProof.Rows
/-! ### enumerate, zip -/
def enumD (ds : List D) : List D := ds.zipIdx.map fun p => .tup [.int (p.2 : Nat), p.1]
def zipD (ds es : List D) : List D := (ds.zip es).map fun p => .tup [p.1, p.2]
theorem enumD_length {ds : List D} : (enumD ds).length = ds.length := by
  unfold enumD
  rw [List.length_map, List.length_zipIdx]
theorem zipD_length {ds es : List D} : (zipD ds es).length = min ds.length es.length := by
  unfold zipD
  rw [List.length_map, List.length_zip]
theorem enumD_get {ds : List D} {i : Nat} {d : D} (h : (enumD ds)[i]? = some d) : ∃ x, ds[i]? = some x ∧ d = .tup [.int (i : Nat), x] := by
  unfold enumD at h
  rw [List.getElem?_map, List.getElem?_zipIdx] at h
  cases e : ds[i]? with
  | none => rw [e] at h; cases h
  | some x =>
    rw [e] at h
    cases h
    exact ⟨x, rfl, by rw [Nat.zero_add]⟩
theorem zipD_get {ds es : List D} {i : Nat} {d : D} (h : (zipD ds es)[i]? = some d) : ∃ x y, ds[i]? = some x ∧ es[i]? = some y ∧ d = .tup [x, y] := by
  unfold zipD at h
  rw [List.getElem?_map] at h
  cases e : (ds.zip es)[i]? with
  | none => rw [e] at h; cases h
  | some p =>
    rw [e] at h
    cases h
    obtain ⟨h1, h2⟩ := List.getElem?_zip_eq_some.mp e
    exact ⟨p.1, p.2, h1, h2, rfl⟩
section
variable {K : PySem.W.Frag} {M : MS} {H : Hp}
theorem wk_enum {a : Addr} {xs : List V} {ds : List D} (m : MOk M H) (h : (Rd H a (.lst xs) ∧ ¬ M a) ∨ (∀ H, SqL K H a xs)) (l : RpL K M H xs ds) : Wk K M H (Ite K a) (enumD ds) where
  go := fun i d M' H' m' ev e => by
    obtain ⟨d0, e0, rfl⟩ := enumD_get e
    obtain ⟨v, hv, q⟩ := l.get e0
    refine ⟨⟨xs, v, SqL.ev h ev, hv⟩, fun x H'' y => ?_⟩
    obtain ⟨T, x0, rfl, nT, rfl, f⟩ := y
    have e1 := f xs (SqL.ev h ev)
    rw [hv] at e1
    cases e1
    exact ⟨same_upd nT, new_tup m' nT (.cons (.int _) (.cons (q.move m ev) .nil))⟩
  stop := fun M' H' m' ev => ⟨xs, SqL.ev h ev, by rw [l.length, enumD_length]; exact Nat.le_refl _⟩
theorem wk_enumT {a : Addr} {xs : List V} {ds : List D} (m : MOk M H) (h : Rd H a (.tup xs) ∨ (∀ H, SqT K H a xs)) (l : RpL K M H xs ds) : Wk K M H (IteT K a) (enumD ds) where
  go := fun i d M' H' m' ev e => by
    obtain ⟨d0, e0, rfl⟩ := enumD_get e
    obtain ⟨v, hv, q⟩ := l.get e0
    refine ⟨⟨xs, v, SqT.ev m h ev, hv⟩, fun x H'' y => ?_⟩
    obtain ⟨T, x0, rfl, nT, rfl, f⟩ := y
    have e1 := f xs (SqT.ev m h ev)
    rw [hv] at e1
    cases e1
    exact ⟨same_upd nT, new_tup m' nT (.cons (.int _) (.cons (q.move m ev) .nil))⟩
  stop := fun M' H' m' ev => ⟨xs, SqT.ev m h ev, by rw [l.length, enumD_length]⟩
theorem wk_zipB {t1 t2 : Bool} {a b : Addr} {xs ys : List V} {ds es : List D} (m : MOk M H) (h : ∀ M' H', MOk M' H' → Ev M H M' H' → SqB K t1 H' a xs) (l : RpL K M H xs ds) (h' : ∀ M' H', MOk M' H' → Ev M H M' H' → SqB K t2 H' b ys) (l' : RpL K M H ys es) : Wk K M H (ItzB K t1 t2 a b) (zipD ds es) where
  go := fun i d M' H' m' ev e => by
    obtain ⟨d0, d1, e0, e1, rfl⟩ := zipD_get e
    obtain ⟨v, hv, q⟩ := l.get e0
    obtain ⟨u, hu, q'⟩ := l'.get e1
    refine ⟨⟨xs, ys, v, u, h _ _ m' ev, h' _ _ m' ev, hv, hu⟩, fun x H'' y => ?_⟩
    obtain ⟨T, x0, y0, rfl, nT, rfl, f, f'⟩ := y
    have z1 := f xs (h _ _ m' ev)
    have z2 := f' ys (h' _ _ m' ev)
    rw [hv] at z1
    rw [hu] at z2
    cases z1
    cases z2
    exact ⟨same_upd nT, new_tup m' nT (.cons (q.move m ev) (.cons (q'.move m ev) .nil))⟩
  stop := fun M' H' m' ev => ⟨xs, ys, h _ _ m' ev, h' _ _ m' ev, by rw [l.length, zipD_length]; omega, by rw [l'.length, zipD_length]; omega, by rw [l.length, l'.length, zipD_length]; omega⟩
theorem Rp.walkL {v : V} {ds : List D} (q : Rp K M H v (.lst ds)) : ∃ a xs, v = .ref a ∧ SqL K H a xs ∧ ((Rd H a (.lst xs) ∧ ¬ M a) ∨ (∀ H, SqL K H a xs)) ∧ RpL K M H xs ds := by
  cases q with
  | lst h n l => exact ⟨_, _, rfl, .of h, .inl ⟨.of h, n⟩, l⟩
theorem Rp.walkZ {v : V} {ds : List D} (q : Rp K M H v (.fz ds)) : ∃ a xs, v = .ref a ∧ SqL K H a xs ∧ ((Rd H a (.lst xs) ∧ ¬ M a) ∨ (∀ H, SqL K H a xs)) ∧ RpL K M H xs ds := by
  cases q with
  | fz h n l => exact ⟨_, _, rfl, .inl h, .inl ⟨h, n⟩, l⟩
  | fzK h l => exact ⟨_, _, rfl, h H, .inr h, l⟩
theorem Rp.walkT {v : V} {ds : List D} (q : Rp K M H v (.tup ds)) : ∃ a xs, v = .ref a ∧ SqT K H a xs ∧ (Rd H a (.tup xs) ∨ (∀ H, SqT K H a xs)) ∧ RpL K M H xs ds := by
  cases q with
  | tup h l => exact ⟨_, _, rfl, .of h, .inl (.of h), l⟩
  | tupK h l => exact ⟨_, _, rfl, h.sq H, .inr h.sq, l⟩
end
section
variable {X : Cx} {B : Bs} {W : WX} {e e2 : Expr} {f g : F D} {p pos tpos : Pos} {elts : List Expr} {kk : Nat}
/-- a list or a tuple, by what is in it -/
def seqD : D → Option (List D)
  | .lst ds => some ds
  | .fz ds => some ds
  | .tup ds => some ds
  | _ => none
theorem Rp.walkB {K : PySem.W.Frag} {M : MS} {H : Hp} {v : V} {d : D} {ds : List D} (m : MOk M H) (q : Rp K M H v d) (e : seqD d = some ds) : ∃ t a xs, v = .ref a ∧ SqB K t H a xs ∧ (∀ M' H', MOk M' H' → Ev M H M' H' → SqB K t H' a xs) ∧ RpL K M H xs ds := by
  cases d with
  | lst es =>
    cases e
    obtain ⟨a, xs, rfl, h1, h2, l⟩ := q.walkL
    exact ⟨false, a, xs, rfl, h1, fun M' H' m' ev => SqL.ev h2 ev, l⟩
  | fz es =>
    cases e
    obtain ⟨a, xs, rfl, h1, h2, l⟩ := q.walkZ
    exact ⟨false, a, xs, rfl, h1, fun M' H' m' ev => SqL.ev h2 ev, l⟩
  | tup es =>
    cases e
    obtain ⟨a, xs, rfl, h1, h2, l⟩ := q.walkT
    exact ⟨true, a, xs, rfl, h1, fun M' H' m' ev => SqT.ev m h2 ev, l⟩
  | _ => cases e
def enumF (f : F D) : F (List D) := fun s => (f s).bind fun d s1 => match seqD d with
  | some ds => .ok (enumD ds) s1
  | none => .no
theorem si_enum (hK : X.K = B.K) (hg : Gl X "enumerate") (hm : X.mg "enumerate" = none) (he : SE X B W e f) (hs : starEach [e] X.env = [(false, eval e X.env)] := by rfl) : SI X B W (.Tuple elts kk tpos) (.Call (.Name "enumerate" p) [e] [] pos) (enumF f) := by
  refine PI.imp (pi_enumT hg hm (pa_cons he pa_nil hs) hs) fun σ H Q ⟨M, s, r, p⟩ => ⟨M, s, r, PostI.bind p fun d s1 M1 H1 v r1 q1 ev1 p1 => ?_⟩
  cases d with
  | lst ds =>
    obtain ⟨a, xs, rfl, h1, h2, l⟩ := q1.walkL
    refine ⟨a, xs, rfl, .inl ⟨hK ▸ h1, ?_⟩⟩
    rw [hK]
    exact p1.out r1 (wk_enum r1.mo h2 l)
  | fz ds =>
    obtain ⟨a, xs, rfl, h1, h2, l⟩ := q1.walkZ
    refine ⟨a, xs, rfl, .inl ⟨hK ▸ h1, ?_⟩⟩
    rw [hK]
    exact p1.out r1 (wk_enum r1.mo h2 l)
  | tup ds =>
    obtain ⟨a, xs, rfl, h1, h2, l⟩ := q1.walkT
    refine ⟨a, xs, rfl, .inr ⟨hK ▸ h1, ?_⟩⟩
    rw [hK]
    exact p1.out r1 (wk_enumT r1.mo h2 l)
  | _ => exact p1.elim
def zipF (f g : F D) : F (List D) := fun s => (f s).bind fun d s1 => (g s1).bind fun d2 s2 => match seqD d, seqD d2 with
  | some ds, some es => .ok (zipD ds es) s2
  | _, _ => .no
theorem si_zip (hK : X.K = B.K) (hg : Gl X "zip") (hm : X.mg "zip" = none) (he : SE X B W e f) (he2 : SE X B W e2 g) (hs : starEach [e, e2] X.env = (false, eval e X.env) :: starEach [e2] X.env := by rfl) (hpl : (backTo pos (starEach [e2] X.env)).any (·.1) = false := by rfl)
    (hs2 : starEach [e2] X.env = (false, eval e2 X.env) :: starEach [] X.env := by rfl) : SI X B W (.Tuple elts kk tpos) (.Call (.Name "zip" p) [e, e2] [] pos) (zipF f g) := by
  refine PI.imp (pi_zipB hg hm (pa_cons he (pa_cons he2 pa_nil hs2) hs) hs hpl) fun σ H Q ⟨M, s, r, p⟩ => ⟨M, s, r, PostI.bind p fun d s1 M1 H1 v r1 q1 ev1 p1 => ⟨M1, s1, r1, PostI.bind p1 fun d2 s2 M2 H2 u r2 q2 ev2 p2 => ?_⟩⟩
  have q1' := q1.move r1.mo ev2
  split at p2
  · rename_i ds es e1 e2
    obtain ⟨t1, a, xs, rfl, h1, h2, l⟩ := q1'.walkB r2.mo e1
    obtain ⟨t2, b, ys, rfl, h1', h2', l'⟩ := q2.walkB r2.mo e2
    refine ⟨t1, t2, a, b, xs, ys, rfl, hK ▸ h1, hK ▸ h1', ?_⟩
    rw [hK]
    exact p2.out r2 (wk_zipB r2.mo h2 l h2' l')
  · exact p2.elim
/-! ### xs[::-1] -/
theorem Vals.rev {xs : List V} {us : List Value} (h : Vals xs us) : Vals xs.reverse us.reverse := L2.Vals.reverse h
theorem RpL.rev {K : PySem.W.Frag} {M : MS} {H : Hp} : ∀ {vs : List V} {ds : List D}, RpL K M H vs ds → RpL K M H vs.reverse ds.reverse
  | [], [], .nil => .nil
  | _ :: _, _ :: _, .cons q t => by
    rw [List.reverse_cons, List.reverse_cons]
    exact (RpL.rev t).append (.cons q .nil)
def revLF (f : F D) : F (List D) := fun s => (f s).bind fun d s1 => match d with
  | .lst ds => .ok ds.reverse s1
  | .fz ds => .ok ds.reverse s1
  | _ => .no
theorem sn_revL {k : Nat} {p1 p2 p3 : Pos} (hK : X.K = B.K) (he : SE X B W e f) : SN X B W (.Subscript e (.Slice none none (some (.UnaryOp .USub (.Constant (.int 1) k p1) p2)) p3) pos) (revLF f) := by
  refine PE.imp (pe_revL he) fun σ H Q ⟨M, s, r, p⟩ => ⟨M, s, r, PostN.bind p fun d s1 M1 H1 v r1 q1 ev1 p1 => ?_⟩
  split at p1
  · obtain ⟨a, xs, rfl, h1, h2, l⟩ := q1.walkL
    exact ⟨a, xs, rfl, hK ▸ h1, fun q hq => p1.laid r1 hq l.rev⟩
  · obtain ⟨a, xs, rfl, h1, h2, l⟩ := q1.walkZ
    exact ⟨a, xs, rfl, hK ▸ h1, fun q hq => p1.laid r1 hq l.rev⟩
  · exact p1.elim
end
end Fx

set_option Elab.async false
set_option linter.all false
set_option maxRecDepth 100000
namespace Fx
variable [Tbl]
open PySem L2 PyProof.Rows
/-! ### t[::-1], t a tuple -/
theorem adjust_rev (n : Nat) : Builtin.Slice.sliceAdjust none none (-1) (n : Int) = ((n : Int) - 1, -1) := by
  unfold Builtin.Slice.sliceAdjust
  rfl
theorem places_rev (n : Nat) : Builtin.Slice.slicePlaces ((n : Int) - 1) (-1) (-1) = n := by
  unfold Builtin.Slice.slicePlaces
  rw [if_neg (show ¬ ((-1 : Int) > 0) by decide)]
  have e : ((n : Int) - 1 - -1 - 1) / (- -1) = (n : Int) - 1 := by
    rw [show (- -1 : Int) = 1 by decide, Int.ediv_one]
    omega
  rw [e]
  split <;> omega
theorem fm_congr {α β : Type} {f g : α → Option β} : ∀ {l : List α}, (∀ x ∈ l, f x = g x) → l.filterMap f = l.filterMap g
  | [], _ => rfl
  | x :: l, h => by
    have ih := fm_congr (l := l) fun y hy => h y (List.mem_cons_of_mem _ hy)
    rw [List.filterMap_cons, List.filterMap_cons, h x List.mem_cons_self, ih]
theorem pick_rev (xs : Array Value) : ((List.range xs.size).filterMap fun (m : Nat) => xs[((xs.size : Int) - 1 + (m : Int) * -1).toNat]?).toArray = xs.toList.reverse.toArray := by
  have e : (List.range xs.size).filterMap (fun (m : Nat) => xs[((xs.size : Int) - 1 + (m : Int) * -1).toNat]?) = ((List.range xs.size).map fun k => xs.size - 1 - k).filterMap (xs[·]?) := by
    rw [List.filterMap_map]
    refine fm_congr fun m hm => ?_
    have := List.mem_range.mp hm
    show xs[((xs.size : Int) - 1 + (m : Int) * -1).toNat]? = xs[xs.size - 1 - m]?
    have e : ((xs.size : Int) - 1 + (m : Int) * -1).toNat = xs.size - 1 - m := by omega
    rw [e]
  rw [e, PySem.W.krv_range, List.filterMap_reverse, PySem.W.krv_all]
section
variable {prog : Program} {w : World} {A : Around} {E : Value → Shared → Prop} {s : Shared}
theorem applied_rev {sl : Addr} {vs : Value} {n : Nat} {Q : Int × Int × Nat → Shared → Prop} (hs : s.heap.IsSliceOf sl .none .none vs) (ps : IsPart vs (some (-1))) (h : Q ((n : Int) - 1, -1, n) s) : wpAny (model prog w) A (Builtin.Slice.sliceApplied (.ref sl) (pure (n : Int))) Q E s := by
  obtain ⟨os, hos, hcs, hds⟩ := id hs
  unfold Builtin.Slice.sliceApplied Builtin.Slice.sliceFields
  refine wpAny_bind (wpAny_bind (wpAny_field hos hds (x := .none) rfl (wpAny_bind (wpAny_field hos hds (x := .none) rfl (wpAny_bind (wpAny_field hos hds (x := vs) rfl (wpAny_pure ?_)))))))
  refine wpAny_bind (HT.slicePart_ ps ?_)
  show wpAny _ _ (if ((-1 : Int) == 0) = true then _ else _) _ _ s
  rw [if_neg (by decide)]
  refine wpAny_bind (HT.slicePart_ (o := none) .none (wpAny_bind (HT.slicePart_ (o := none) .none (wpAny_bind (wpAny_pure ?_)))))
  show wpAny _ _ (match Builtin.Slice.sliceAdjust none none (-1) (n : Int) with | (lo, hi) => pure (lo, (-1 : Int), Builtin.Slice.slicePlaces lo hi (-1))) _ _ s
  rw [adjust_rev]
  show wpAny _ _ (pure ((n : Int) - 1, (-1 : Int), Builtin.Slice.slicePlaces ((n : Int) - 1) (-1) (-1))) _ _ s
  rw [places_rev]
  exact wpAny_pure h
theorem getItem_tuple_rev {t sl : Addr} {items : Array Value} {vs : Value} {Q : Value → Shared → Prop} (ht : IsTup s.heap t items) (hs : s.heap.IsSliceOf sl .none .none vs) (ps : IsPart vs (some (-1)))
    (h : Q (.ref s.heap.objs.size) { s with heap := s.heap.push { cls := .type "tuple", data := .seq items.toList.reverse.toArray } }) (hsz : items.size ≤ sizeLine) : wpAny (model prog w) A (getItem (.ref t) (.ref sl)) Q E s := by
  have hfit : sizeOk (.seq items.toList.reverse.toArray) := by
    show items.toList.reverse.toArray.size ≤ sizeLine
    rw [List.size_toArray, List.length_reverse, Array.length_toList]
    exact hsz
  obtain ⟨os, hos, hcs, hds⟩ := id hs
  have hTs : s.TypeIs (.ref sl) "slice" := ⟨os, hos, hcs⟩
  unfold getItem
  try with_reducible refine wpAny_holding ?_
  first | refine wpAny_bind (wpAny_pure ?_) | skip
  refine wpAny_bind (wpAny_sequenceKey ht.typeIs (by decide) ?_)
  refine wpAny_bind (wpAny_callSpecial?_slot (name := Str.ofString "__getitem__") ht.typeIs PyProof.Rows.slot_tuple_getitem (wpAny_call_entry PyProof.Rows.slot_tuple_getitem ht.typeIs entry_tuple_getitem ?_ (args_tuple_getitem _ _)))
  show wpAny _ _ (Builtin.Tuple.tupleItemsOf (.ref t) >>= _) _ _ s
  refine wpAny_bind (tupleItemsOf_ ht ?_)
  refine wpAny_bind (wpAny_typeOf hTs ?_)
  rw [if_pos (by decide)]
  refine wpAny_bind (applied_rev hs ps ?_)
  have no : ¬ ((((items.size : Int) - 1) == 0 && (-1 : Int) == 1 && items.size == items.size) = true) := by
    rw [show ((-1 : Int) == 1) = false from rfl, Bool.and_false, Bool.false_and]
    exact Bool.false_ne_true
  show wpAny _ _ (if (((items.size : Int) - 1) == 0 && (-1 : Int) == 1 && items.size == items.size) = true then _ else _) _ _ s
  rw [if_neg no, pick_rev]
  first
    | exact wpAny_bind (m := Builtin.Tuple.tupleExact _) (wpAny_newObj_type (wpAny_pure ⟨_, rfl, wpAny_pure h⟩) hfit)
    | exact wpAny_bind (m := Builtin.Tuple.tupleExact _) (wpAny_newObj_type (wpAny_bind (wpAny_pure (wpAny_pure ⟨_, rfl, wpAny_pure h⟩))) hfit)
    | exact wpAny_bind (wpAny_bind (m := Builtin.Tuple.tupleExact _) (wpAny_newObj_type (wpAny_pure (wpAny_pure ⟨_, rfl, wpAny_pure h⟩)) hfit))
    | exact wpAny_bind (wpAny_bind (m := Builtin.Tuple.tupleExact _) (wpAny_newObj_type (wpAny_pure ⟨_, rfl, wpAny_pure h⟩) hfit))
end
section
variable {X : Cx} {B : Bs} {W : WX} {e : Expr} {f : F D} {pos : Pos}
def tRevT (K : PySem.W.Frag) (te : TE) : TE := fun σ H Q => te σ H fun x H1 => ∃ a xs, x = .ref a ∧ SqT K H1 a xs ∧ ∀ p, H1 p = none → Q (.ref p) (upd H1 p (.tup xs.reverse))
theorem pe_revT {te : TE} {k : Nat} {p1 p2 p3 : Pos} (he : PE X e te) : PE X (.Subscript e (.Slice none none (some (.UnaryOp .USub (.Constant (.int 1) k p1) p2)) p3) pos) (tRevT X.K te) := by
  refine ⟨fun pins s σ H Q I h => Subscript_ (thn (he.run pins s σ H _ I h) fun v s1 ⟨x, H1, I1, r1, a, xs, ex, hx, q⟩ => ?_)⟩
  subst ex
  cases r1
  have hst : PO X (some (.UnaryOp .USub (.Constant (.int 1) k p1) p2)) (tPart (tUn (rU fun i => .int (-i)) (tC (.int 1)))) := po_some (pe_un un_neg pe_int)
  refine wpAny_Slice (thn (po_none.run pins s1 σ H1 (fun o H2 => o = none ∧ H2 = H1) I1 ⟨rfl, rfl⟩) fun vl s2 ⟨l, H2, I2, pl, el, e2⟩ => ?_)
  subst el e2
  refine thn (po_none.run pins s2 σ H2 (fun o H3 => o = none ∧ H3 = H2) I2 ⟨rfl, rfl⟩) fun vu s3 ⟨u, H3, I3, pu, eu, e3⟩ => ?_
  subst eu e3
  refine thn (hst.run pins s3 σ H3 (fun o H4 => o = some (-1) ∧ H4 = H3) I3 ⟨1, rfl, -1, rfl, rfl, rfl⟩) fun vs s4 ⟨o, H4, I4, ps, eo, e4⟩ => ?_
  subst eo e4
  cases pl
  cases pu
  have I5 : Inv X pins σ H4 { s4 with heap := s4.heap.push { cls := .type "slice", data := .fields #[.none, .none, vs] } } := I4.kept (t' := s4.toks) fun b ob q => Heap.get?_push_of_some _ q
  obtain ⟨its, r, ht, hz⟩ := I5.tuple hx
  have hlen := r.length
  show wpAny (model X.prog X.w) X.A (subscriptTail e (.Slice none none (some (.UnaryOp .USub (.Constant (.int 1) k p1) p2)) p3) (.ref a) (.ref s4.heap.objs.size)) (EP X pins σ Q) X.xe { s4 with heap := s4.heap.push { cls := .type "slice", data := .fields #[.none, .none, vs] } }
  refine tail_any (ops := [.ref a, .ref s4.heap.objs.size]) ht.typeIs PyProof.Rows.slot_tuple_getitem.lookup ?_ (by with_unfolding_all rfl)
  refine getItem_tuple_rev ht (Heap.IsSliceOf.new _ .none .none vs) ps ?_ (by rw [List.size_toArray]; omega)
  exact ⟨.ref _, _, I5.laid (t' := s4.toks) (o := .tup xs.reverse) (fun b ob q => Heap.get?_push_of_some _ q) (Nat.le_refl _) ⟨by rw [List.length_reverse]; exact hz, _, Vals.rev r, IsTup.new _ _⟩, rfl, q _ (I5.hok.fresh (Nat.le_refl _))⟩
def revTF (f : F D) : F D := fun s => (f s).bind fun d s1 => match d with
  | .tup ds => .ok (.tup ds.reverse) s1
  | _ => .no
theorem se_revT {k : Nat} {p1 p2 p3 : Pos} (hK : X.K = B.K) (he : SE X B W e f) : SE X B W (.Subscript e (.Slice none none (some (.UnaryOp .USub (.Constant (.int 1) k p1) p2)) p3) pos) (revTF f) := by
  refine PE.imp (pe_revT he) fun σ H Q ⟨M, s, r, p⟩ => ⟨M, s, r, Post.bind p fun d s1 M1 H1 v r1 q1 ev1 p1 => ?_⟩
  split at p1
  · obtain ⟨a, xs, rfl, h1, h2, l⟩ := q1.walkT
    exact ⟨a, xs, rfl, hK ▸ h1, fun q hq => p1.grow r1 (same_upd hq) (new_tup r1.mo hq l.rev)⟩
  · exact p1.elim
end
end Fx

set_option Elab.async false
set_option linter.all false
set_option maxRecDepth 100000
namespace Fx
variable [Tbl]
open PySem L2 PyProof.Rows
/-! ### own[i] op= e -/
section
variable {X : Cx} {B : Bs} {W : WX} {e : Expr} {f g : F D} {pos : Pos}
def rGetN (K : PySem.W.Frag) : V → V → Hp → VK → Prop := fun x y H Q => ∃ p xs j v, x = .ref p ∧ y = .int j ∧ SqL K H p xs ∧ 0 ≤ j ∧ xs[j.toNat]? = some v ∧ Q v H
theorem get_list : PGet X (rGetN X.K) := by
  intro pins s σ H o i ov iv Q I ro ri h
  obtain ⟨p, xs, j, z, rfl, rfl, hq, h0, he, q⟩ := h
  cases ro
  obtain ⟨t, rfl⟩ := ri
  obtain ⟨its, r, pl, hz⟩ := I.list hq
  obtain ⟨w, ew, rw'⟩ := r.get he
  have hlt := (List.getElem?_eq_some_iff.mp he).1
  rw [sizeLine_eq] at hz
  exact wpAny_getItem_list pl.isList h0 (by omega) (by simpa using ew) ⟨z, H, I, rw', q⟩
/-- an augmented operator, on data -/
def IpD (X : Cx) (K : PySem.W.Frag) (op : Operator) (o : D → D → Option D) : Prop := ∃ r : TIp, PIp X op r ∧ Op2 K r o
def iaddD : D → D → Option D
  | .int i, .int j => some (.int (i + j))
  | _, _ => none
def isubD : D → D → Option D
  | .int i, .int j => some (.int (i - j))
  | _, _ => none
theorem ip_addD {K : PySem.W.Frag} : IpD X K .Add iaddD := ⟨_, ip_add, fun x y d e M H v u Q m qx qy k => by
  unfold iaddD at e
  split at e
  · cases e
    cases qx
    cases qy
    exact ⟨_, _, rfl, rfl, k _ H same_rfl (.int _)⟩
  · cases e⟩
theorem ip_subD {K : PySem.W.Frag} : IpD X K .Sub isubD := ⟨_, ip_sub, fun x y d e M H v u Q m qx qy k => by
  unfold isubD at e
  split at e
  · cases e
    cases qx
    cases qy
    exact ⟨_, _, rfl, rfl, k _ H same_rfl (.int _)⟩
  · cases e⟩
def ownPutAt (s : List Sl) (i n : Nat) (z : D) : Option (List Sl) := match ownAt s i with
  | some ds => if n < ds.length then ownPut s i (ds.set n z) else none
  | none => none
/-- own[i] op= e -/
def augIxG (i : Nat) (o : D → D → Option D) (g f : F D) : G := fun s => match ownAt s i with
  | none => .no
  | some _ => (g s).out fun j s1 => match j, ownAt s1 i with
    | .int j, some ds => if 0 ≤ j then match ds[j.toNat]? with
      | some x => (f s1).out fun y s2 => match o x y with
        | some z => match ownPutAt s2 i j.toNat z with
          | some s3 => .nx s3
          | none => .no
        | none => .no
      | none => .no
      else .no
    | _, _ => .no
theorem ss_augIx (i : Nat) {x : Str} {e' : Expr} {p' tpos : Pos} {op : Operator} {o : D → D → Option D} (hK : X.K = B.K) (ho : IpD X B.K op o) (hg : SE X B W e' g) (he : SE X B W e f) (hN : X.N[i]? = some x := by rfl) (hv : Vis X.env.scope x := by first | exact Or.inl rfl | exact Or.inr (Or.inl rfl) | exact Or.inr (Or.inr rfl))
    (hd : (x == ("__debug__" : Str)) = false := by decide) (hcd : (x == ("__classdict__" : Str)) = false := by decide) (ha : ∀ ov iv new, augStore e' ov iv new = (do holding [new, ov, iv] (setItem ov iv new); release [new, ov, iv] []; pure Flow.next) := by intros; rfl) :
    SS X B W (.AugAssign (.Subscript (.Name x p') e' tpos) op e pos) (augIxG i o g f) := by
  obtain ⟨ri, hr, h2⟩ := ho
  refine PS.imp (L2.ps_augS (pe_var hN hv hd hcd) hg get_list he hr set_list ha) fun E σ H ⟨M, s, r, p⟩ => ?_
  unfold augIxG at p
  split at p
  · exact p.elim
  · rename_i es0 e0
    obtain ⟨a, xs0, e1, hq0, _⟩ := ownAt.run r e0
    refine ⟨_, e1, M, s, r, PostS.bind p fun j s1 M1 H1 w r1 q1 ev1 p1 => ?_⟩
    split at p1
    · rename_i j ds e2
      cases q1
      split at p1
      · rename_i h0
        split at p1
        · rename_i x0 ex
          obtain ⟨a1, xs, e3, hq, hx⟩ := ownAt.run r1 e2
          rw [e1] at e3
          cases e3
          obtain ⟨v0, ev0, q0⟩ := hx.get ex
          refine ⟨a, xs, j, v0, rfl, rfl, hK ▸ hq, h0, ev0, M1, s1, r1, PostS.bind p1 fun y s2 M2 H2 u r2 q2 ev2 p2 => ?_⟩
          split at p2
          · rename_i z hz
            refine h2 x0 y z hz M2 H2 v0 u _ r2.mo (q0.move r1.mo ev2) q2 fun w H' sm qw => ?_
            have r3 := r2.grow sm
            have p3 := PostS.later p2 (.same sm)
            split at p3
            · rename_i s3 e4
              obtain ⟨ds2, n1, e5⟩ : ∃ ds2, j.toNat < ds2.length ∧ ownPut s2 i (ds2.set j.toNat z) = some s3 ∧ ownAt s2 i = some ds2 := by
                unfold ownPutAt at e4
                split at e4
                · rename_i ds2 e6
                  split at e4
                  · rename_i hlt
                    exact ⟨ds2, hlt, e4, e6⟩
                  · cases e4
                · cases e4
              obtain ⟨e5, e6⟩ := e5
              obtain ⟨a2, xs2, es2, e7, e8, h7, h8, h9, _⟩ := ownPut.run r3 e5
              rw [e6] at e7
              cases e7
              rw [e1] at e8
              cases e8
              obtain ⟨r4, ev4⟩ := ownPut.upd r3 e5 e1 (RpL.set qw j.toNat h9)
              refine ⟨a, xs2, j, j.toNat, rfl, rfl, h7, ev_ixN h0 (by rw [h9.length]; omega), p3 σ _ M2 r4 ev4⟩
            · exact p3.elim
          · exact p2.elim
        · exact p1.elim
      · exact p1.elim
    · exact p1.elim
/-! ### isinstance(e, C), C a class of one's own -/
def baseTys : List String := ["NoneType", "bool", "int", "str", "list", "tuple", "dict"]
/-- an instance of the class at C tells its class -/
structure InsT (K : PySem.W.Frag) (C : Addr) : Prop where
  cl : Cls K C
  a : PySem.W.findIn K (.ref C) "__class__" = some (some (.builtin "object.__class__"))
  b : PySem.W.specialIn K (.builtin "object.__class__") "__get__" = some (some (.builtin "getset_descriptor.__get__"))
  c : PySem.W.takesIn K (.builtin "object.__class__") = some true
  d : PySem.W.mroIn K C (.type "object") = some true
structure IsiC (K : PySem.W.Frag) (mg : Str → Option Value) (cn : Str) (yes no : List Str) : Prop where
  ex : ∃ C, mg cn = some (.ref C) ∧ (∀ n ∈ yes, ∃ D, ClsAt K n D ∧ InsT K D ∧ PySem.W.kitOne K (.ref D) (.ref C) = some true) ∧ (∀ n ∈ no, ∃ D, ClsAt K n D ∧ InsT K D ∧ PySem.W.kitOne K (.ref D) (.ref C) = some false) ∧
    ∀ t ∈ baseTys, PySem.W.kitOne K (.type t) (.ref C) = some false
def isiCD (yes no : List Str) : D → Option D
  | .ins n _ => if n ∈ yes then some (.bl true) else if n ∈ no then some (.bl false) else none
  | x => match tyD x with
    | some _ => some (.bl false)
    | none => none
theorem tyD_base {x : D} {t : String} (h : tyD x = some t) : t ∈ baseTys := by
  cases x <;> cases h <;> decide
theorem se_isiC {yes no : List Str} {cn : Str} {p p2 : Pos} (hK : X.K = B.K) (h : IsiC B.K X.mg cn yes no) (hm : X.mg "isinstance" = none) (he : SE X B W e f) (hg : Gl X "isinstance" := by rfl) (hgc : Gl X cn := by rfl) (hdc : (cn == ("__debug__" : Str)) = false := by decide)
    (hst : starEach [e, .Name cn p2] X.env = (false, eval e X.env) :: starEach [.Name cn p2] X.env := by rfl) (hs2 : starEach [.Name cn p2] X.env = (false, eval (.Name cn p2) X.env) :: starEach [] X.env := by rfl) (hpl : (backTo pos (starEach [.Name cn p2] X.env)).any (·.1) = false := by rfl) :
    SE X B W (.Call (.Name "isinstance" p) [e, .Name cn p2] [] pos) (op1F (isiCD yes no) f) := by
  obtain ⟨C, hC, h1, h2, h3⟩ := h.ex
  refine PE.imp (pe_callB call_isi hg hm bt_isinstance (pa_cons he (pa_cons (pe_glob (v := .ref C) hgc hC rfl hdc) pa_nil hs2) hst) (by decide) (by decide) hst hpl) fun σ H Q ⟨M, s, r, p⟩ => ⟨M, s, r, Post.bind p fun d s1 M1 H1 v r1 q1 ev1 p1 => ?_⟩
  unfold toR at p1
  split at p1
  · rename_i d' hd
    have key : ∀ (t : Value) (b : Bool), TyX X.K H1 v t → PySem.W.kitOne X.K t (.ref C) = some b → d' = .bl b → rIsi X.K [v, .ref C] H1 Q := fun t b ht hk e => by
      subst e
      exact ⟨v, .ref C, t, .ref C, b, rfl, .own C, ht, hk, p1.out r1 (.bl b)⟩
    have hins : ∀ n fs, d = .ins n fs → isiCD yes no (.ins n fs) = some d' → rIsi X.K [v, .ref C] H1 Q := fun n fs ed hd => by
      subst ed
      cases q1 with
      | @ins a C' dx _ vs _ g1 g2 g3 g4 g5 =>
        unfold isiCD at hd
        dsimp only at hd
        split at hd
        · rename_i hn
          obtain ⟨D', hD, it, hk⟩ := h1 n hn
          cases hD.uniq g3
          cases hd
          exact key (.ref C') true (.base (.ins g1 (hK ▸ it.cl) (hK ▸ it.a) (hK ▸ it.b) (hK ▸ it.c) (hK ▸ it.d))) (hK ▸ hk) rfl
        · split at hd
          · rename_i hn
            obtain ⟨D', hD, it, hk⟩ := h2 n hn
            cases hD.uniq g3
            cases hd
            exact key (.ref C') false (.base (.ins g1 (hK ▸ it.cl) (hK ▸ it.a) (hK ▸ it.b) (hK ▸ it.c) (hK ▸ it.d))) (hK ▸ hk) rfl
          · cases hd
    have hty : ∀ t, tyD d = some t → d' = .bl false → rIsi X.K [v, .ref C] H1 Q := fun t ht e => key (.type t) false (hK ▸ q1.tyx ht) (hK ▸ h3 t (tyD_base ht)) e
    cases d with
    | ins n fs => exact hins n fs rfl hd
    | _ =>
      first
        | (cases hd; done)
        | (cases hd; exact hty _ rfl rfl)
  · exact p1.elim
end
end Fx

set_option Elab.async false
set_option linter.all false
set_option maxRecDepth 100000
namespace Fx
variable [Tbl]
open PySem L2 PyProof.Rows
/-! ### what the text holds of its classes -/
section
variable {P : Program} {w : World} {K : PySem.W.Frag} {mg : Str → Option Value} {base : Heap}
structure MethAt (K : PySem.W.Frag) (cn m qual : Str) (st : Stmt) : Prop where
  ex : ∃ (C f : Addr) (fd : FuncData), ClsAt K cn C ∧ Cls K C ∧ Meth K C m f ∧ Fun K m qual st f fd
structure InitAt (K : PySem.W.Frag) (mg : Str → Option Value) (cn qual : Str) (st : Stmt) : Prop where
  ex : ∃ (C f : Addr) (fd : FuncData), ClsAt K cn C ∧ Mk K C f ∧ Fun K "__init__" qual st f fd ∧ mg cn = some (.ref C)
theorem MKn.of {cn m qual : Str} {st : Stmt} {N ps : List Str} {k n : Nat} {io : Bool} {g : G} (F : MethAt K cn m qual st) (S : FnScope N ps (defScope st)) (hn : N.length = n)
    (h : ∀ (f : Addr) (cdv : Value) (A : Around) (outer : List Env) (s : Shared) (H : Hp) (E : XK), Room k (cxD P w K mg base N qual (defScope st) f cdv A outer s H E).A → (cxD P w K mg base N qual (defScope st) f cdv A outer s H E).A.guards = some [] →
      ∀ B : Bs, B.K = K → SSs (cxD P w K mg base N qual (defScope st) f cdv A outer s H E) B (fun cls d _ H => E cls d H) (defBody st) g) :
    MKn P w K mg base cn m qual st (k + 1) io ps (bodyF n io g) := by
  subst hn
  obtain ⟨C, f, fd, h1, h2, h3, h4⟩ := F.ex
  exact ⟨C, f, fd, h1, h2, h3, h4, fn_mk h4 S (h f)⟩
theorem CKn.of {cn qual : Str} {st : Stmt} {N ps : List Str} {k n : Nat} {g : G} (F : InitAt K mg cn qual st) (S : FnScope N ps (defScope st)) (hn : N.length = n)
    (h : ∀ (f : Addr) (cdv : Value) (A : Around) (outer : List Env) (s : Shared) (H : Hp) (E : XK), Room k (cxD P w K mg base N qual (defScope st) f cdv A outer s H E).A → (cxD P w K mg base N qual (defScope st) f cdv A outer s H E).A.guards = some [] →
      ∀ B : Bs, B.K = K → SSs (cxD P w K mg base N qual (defScope st) f cdv A outer s H E) B (fun cls d _ H => E cls d H) (defBody st) g) :
    CKn P w K mg base cn qual st (k + 1) ps (bodyF n true g) := by
  subst hn
  obtain ⟨C, f, fd, h1, h2, h3, h4⟩ := F.ex
  exact ⟨C, f, fd, h1, h2, h3, fn_mk h3 S (h f), h4⟩
end
end Fx

set_option Elab.async false
set_option linter.all false
set_option maxRecDepth 100000
namespace Fx
variable [Tbl]
open PySem L2 PyProof.Rows
/-! ### x == y, x of a class with an own __eq__ -/
section
variable {X : Cx}
def okY (oks : List Str) : D → Bool
  | .ins n _ => oks.contains n
  | .dic _ _ => false
  | x => (tyD x).isSome
def eqOwnD (cn : Str) (oks : List Str) (Fn : List D → FR) (x y : D) : Option D := match x with
  | .ins c fs => if c = cn ∧ okY oks y = true then match Fn [.ins c fs, y] with
    | .ret (.bl b) _ => some (.bl b)
    | _ => none
    else none
  | _ => none
structure EqK (K : PySem.W.Frag) (cn : Str) (oks : List Str) : Prop where
  ex : ∃ C, ClsAt K cn C ∧ (∀ n ∈ oks, ∃ C', ClsAt K n C' ∧ PySem.W.notFirst K C (.ref C') = true) ∧ ∀ t ∈ baseTys, PySem.W.notFirst K C (.type t) = true
theorem looks_ty {P : Program} {w : World} {h : Heap} {u : Value} {T : String} (k : ∀ s : Shared, (∀ b o, h.get? b = some o → s.heap.get? b = some o) → s.TypeIs u T) : PySem.W.Looks (model P w) h (typeOf u) (.type T) := fun A Q E s g q => wpAny_typeOf (k s g) q
theorem Rp.looks {K : PySem.W.Frag} {M : MS} {pins : List (Addr × Obj)} {σ : L2.St} {H : Hp} {s : Shared} {v : V} {u : Value} {d : D} {t : String} (hK : X.K = K) (I : Inv X pins σ H s) (q : Rp K M H v d) (rv : RelV v u) (h : tyD d = some t) (nd : ∀ ks xs, d ≠ .dic ks xs) : PySem.W.Looks (model X.prog X.w) s.heap (typeOf u) (.type t) := by
  subst hK
  cases d with
  | dic ks xs => exact absurd rfl (nd ks xs)
  | non => cases q; cases h; cases rv; exact looks_ty fun s _ => typeIs_none s
  | bl b => cases q; cases h; cases rv; exact looks_ty fun s _ => PySem.typeIs_bool s _
  | int i => cases q; cases h; obtain ⟨t, rfl⟩ := rv; exact looks_ty fun s _ => typeIs_int s _ _
  | str x => cases q; cases h; obtain ⟨t, rfl⟩ := rv; exact looks_ty fun s _ => typeIs_str s _ _
  | lst xs =>
    cases h
    obtain ⟨a, ys, rfl, hq, l⟩ := q.seq
    cases rv
    obtain ⟨its, r, p, hz⟩ := I.list hq
    obtain ⟨o, ho, hc, _⟩ := p.isList
    exact looks_ty fun s g => ⟨o, g _ _ ho, hc⟩
  | tup xs =>
    cases h
    obtain ⟨a, ys, rfl, hq, l⟩ := q.seqT
    cases rv
    obtain ⟨its, r, p, hz⟩ := I.tuple hq
    obtain ⟨o, ho, hc, _⟩ := p
    exact looks_ty fun s g => ⟨o, g _ _ ho, hc⟩
  | _ => cases h
def rEqOwn (X : Cx) (cn : Str) (oks : List Str) (Fn : List D → FR) : R2 := fun x y H Q => ∃ (M : MS) (c e : D) (b : Bool) (ios : MO), MOk M H ∧ TbOk H ∧ Rp X.K M H x c ∧ Rp X.K M H y e ∧ (∃ fs, c = .ins cn fs) ∧ okY oks e = true ∧ Fn [c, e] = .ret (.bl b) ios ∧ ∀ H', Gro H H' → Q (.bl b) H'
theorem op_eqOwn {P : Program} {w : World} {K : PySem.W.Frag} {mg : Str → Option Value} {base : Heap} {cn qual : Str} {st : Stmt} {k j : Nat} {ps : List Str} {Fn : List D → FR} {oks : List Str} (kn : MKn P w K mg base cn "__eq__" qual st k false ps Fn)
    (hX : X.prog = P ∧ X.w = w ∧ X.K = K ∧ X.mg = mg ∧ X.base = base) (hr : Room j X.A) (hk : k ≤ j) (hq : X.A.guards = some []) (ek : EqK K cn oks) (hp : ps.length = 2)
    (h : ∀ (kV doc pm : Value) (an : Option Addr) (cdv ct : Value) (us ws : List Value), us.length = ps.length → ws.length = ([] : List Str).length → bindArgs (PySem.W.fnOf "__eq__" qual (defArgs st) (defBody st) (defScope st) .none kV doc pm an cdv ct) ⟨us, ([] : List Str).zip ws⟩ = pure (ps.zip ((List.range ps.length).filterMap fun i => (us ++ ws ++ [])[i]?))) :
    ∃ r, OpR X (compareOp .Eq) r ∧ Op2T X.K r (eqOwnD cn oks Fn) := by
  obtain ⟨rfl, rfl, rfl, rfl, rfl⟩ := hX
  refine ⟨rEqOwn X cn oks Fn, ?_, fun x y d e M H v u Q m tk qx qy kk => ?_⟩
  · intro pins s σ H x y v u Q I rx ry ⟨M, c, e, b, ios, m, tk, qx, qy, ⟨fs, hc⟩, hy, hF, q⟩
    subst hc
    obtain ⟨C, f, fd, hC, cl, hm, F, G⟩ := kn.ex
    obtain ⟨C2, hC2, e1, e2⟩ := ek.ex
    cases hC.uniq hC2
    have qx0 := qx
    cases qx0 with
    | @ins a C' dx _ vs _ h1 h2 h3 h4 h5 =>
    cases hC.uniq h3
    cases rx
    obtain ⟨mA, J, _⟩ := ins_get I.hok h1
    obtain ⟨od, J, _⟩ := J.look
    obtain ⟨mm, hFr⟩ := I.fr
    have lk : ∃ tb, PySem.W.Looks (model X.prog X.w) s.heap (typeOf u) tb ∧ PySem.W.notFirst X.K C tb = true := by
      have base : ∀ t, tyD e = some t → (∀ ks xs, e ≠ .dic ks xs) → ∃ tb, PySem.W.Looks (model X.prog X.w) s.heap (typeOf u) tb ∧ PySem.W.notFirst X.K C tb = true := fun t ht nd => ⟨_, qy.looks rfl I ry ht nd, e2 t (tyD_base ht)⟩
      cases e with
      | ins n gs =>
        obtain ⟨C3, hC3, hn⟩ := e1 n (by simpa [okY] using hy)
        cases qy with
        | @ins a' C'' dx' _ vs' _ g1 g2 g3 g4 g5 =>
          cases hC3.uniq g3
          cases ry
          obtain ⟨mB, J', _⟩ := ins_get I.hok g1
          obtain ⟨od', J', _⟩ := J'.look
          exact ⟨_, J'.type, hn⟩
      | non => exact base _ rfl (fun _ _ z => by cases z)
      | bl _ => exact base _ rfl (fun _ _ z => by cases z)
      | int _ => exact base _ rfl (fun _ _ z => by cases z)
      | str _ => exact base _ rfl (fun _ _ z => by cases z)
      | lst _ => exact base _ rfl (fun _ _ z => by cases z)
      | tup _ => exact base _ rfl (fun _ _ z => by cases z)
      | _ => exact absurd hy (by simp [okY, tyD])
    obtain ⟨tb, hb, hn⟩ := lk
    refine PySem.W.cmp_K (op := .Eq) (tb := tb) hr.units0 hFr I.ok.mod.kin J hb hn hm.at_ hm.fn ?_
    have hsp : spF X.K false ps.length Fn (pickG ps.length 0 [] (List.range ps.length) [.ref a, y] []) H (fun v H' => v = .bl b ∧ Gro H H') (fun _ _ _ => False) := by
      have hl : ([V.ref a, y]).length = ps.length := hp.symm
      rw [pick_range hl]
      refine ⟨hl, M, [.ins cn fs, e], m, tk, .cons qx (.cons qy .nil), ?_⟩
      rw [hF]
      intro v H' st tb _ qv
      cases qv
      exact ⟨rfl, gro_of rfl st tb⟩
    refine wpAny_mono (run_fnT (E := fun _ _ _ _ => False) (us := [.ref a, u]) (vs := [.ref a, y]) (ks := []) (ws := []) (zs := []) G (hr.mono hk) hq (Fun.kb (ks := []) F (by omega) h) (fun _ _ _ _ _ _ c => by
      obtain ⟨_, _, _, _, _, _, _, _, _, _, _, _, z⟩ := c
      exact z.elim) I (.cons rfl (.cons ry .nil)) .nil hsp) (fun r s' hr' => ?_) fun _ _ z => z
    obtain ⟨z, H', J2, rz, ez, sm⟩ := hr'
    subst ez
    cases rz
    exact ⟨.bl b, H', J2, rfl, q H' sm⟩
  · unfold eqOwnD at e
    split at e
    · split at e
      · rename_i c fs hc
        split at e
        · rename_i b ios hF
          cases e
          obtain ⟨rfl, hy⟩ := hc
          exact ⟨M, _, _, b, ios, m, tk, qx, qy, ⟨fs, rfl⟩, hy, hF, fun H' sm => kk _ H' sm (.bl b)⟩
        · cases e
      · cases e
    · cases e
end
end Fx
namespace Fx
variable [Tbl]
open PySem L2 PyProof.Rows
theorem kit_base {K : PySem.W.Frag} {C : Addr} {t : String} (c : PySem.W.isClsIn K C = true) (y : PySem.W.typeIn K (.ref C) = some (.type "type")) (h : (PySem.fastBuiltinMro t).map (·.contains (Value.ref C)) = some false) : PySem.W.kitOne K (.type t) (.ref C) = some false := by
  unfold PySem.W.kitOne
  rw [if_neg (show ¬ ((Value.type t == Value.ref C) = true) from Bool.false_ne_true)]
  unfold PySem.W.kitCls
  have e : ((PySem.W.clsIn K C).isSome && PySem.W.typeIn K (.ref C) == some (.type "type")) = true := by
    rw [show (PySem.W.clsIn K C).isSome = true from c, y]
    rfl
  show (if ((PySem.W.clsIn K C).isSome && PySem.W.typeIn K (.ref C) == some (.type "type")) = true then PySem.W.subIn K (.type t) (.ref C) else none) = _
  rw [if_pos e]
  exact h
theorem kit_self {K : PySem.W.Frag} {C : Addr} : PySem.W.kitOne K (.ref C) (.ref C) = some true := by
  unfold PySem.W.kitOne
  rw [if_pos (beq_self_eq_true _)]
theorem kit_other {K : PySem.W.Frag} {C C' : Addr} (c : PySem.W.isClsIn K C = true) (y : PySem.W.typeIn K (.ref C) = some (.type "type")) (n : (Value.ref C' == Value.ref C) = false) (h : PySem.W.mroIn K C' (.ref C) = some false) : PySem.W.kitOne K (.ref C') (.ref C) = some false := by
  unfold PySem.W.kitOne
  rw [if_neg (by rw [n]; exact Bool.false_ne_true)]
  unfold PySem.W.kitCls
  have e : ((PySem.W.clsIn K C).isSome && PySem.W.typeIn K (.ref C) == some (.type "type")) = true := by
    rw [show (PySem.W.clsIn K C).isSome = true from c, y]
    rfl
  show (if ((PySem.W.clsIn K C).isSome && PySem.W.typeIn K (.ref C) == some (.type "type")) = true then PySem.W.subIn K (.ref C') (.ref C) else none) = _
  rw [if_pos e]
  exact h
theorem mro_no {C : Addr} : (PySem.fastBuiltinMro "NoneType").map (·.contains (Value.ref C)) = some false ∧ (PySem.fastBuiltinMro "bool").map (·.contains (Value.ref C)) = some false ∧ (PySem.fastBuiltinMro "int").map (·.contains (Value.ref C)) = some false ∧
    (PySem.fastBuiltinMro "str").map (·.contains (Value.ref C)) = some false ∧ (PySem.fastBuiltinMro "list").map (·.contains (Value.ref C)) = some false ∧ (PySem.fastBuiltinMro "tuple").map (·.contains (Value.ref C)) = some false ∧ (PySem.fastBuiltinMro "dict").map (·.contains (Value.ref C)) = some false := by
  refine ⟨?_, ?_, ?_, ?_, ?_, ?_, ?_⟩ <;> rfl
theorem kit_all {K : PySem.W.Frag} {C : Addr} (c : PySem.W.isClsIn K C = true) (y : PySem.W.typeIn K (.ref C) = some (.type "type")) : ∀ t ∈ baseTys, PySem.W.kitOne K (.type t) (.ref C) = some false := fun t ht => by
  obtain ⟨a, b, d, e, f, g, hh⟩ := mro_no (C := C)
  simp only [baseTys, List.mem_cons, List.not_mem_nil, or_false] at ht
  rcases ht with rfl | rfl | rfl | rfl | rfl | rfl | rfl
  · exact kit_base c y a
  · exact kit_base c y b
  · exact kit_base c y d
  · exact kit_base c y e
  · exact kit_base c y f
  · exact kit_base c y g
  · exact kit_base c y hh
end Fx
namespace Fx
variable [Tbl]
open PySem L2 PyProof.Rows
section
variable {X : Cx} {B : Bs} {W : WX} {e : Expr} {es : List Expr} {k : F (List D)} {pos : Pos}
def gcdD : List D → Option D
  | [.int a, .int b] => some (.int ((Nat.gcd a.natAbs b.natAbs : Nat) : Int))
  | _ => none
theorem c_gcd : ∃ r, CallR X (.builtin "math.gcd") r ∧ OpN X.K r gcdD := by
  refine ⟨_, cr_gcd, fun xs d e M H vs Q m qs k => ?_⟩
  unfold gcdD at e
  split at e
  · cases e
    obtain ⟨v, u, rfl, q1, q2⟩ := qs.two
    cases q1
    cases q2
    exact ⟨_, _, rfl, k _ H same_rfl (.int _)⟩
  · cases e
/-- f(e, ..), f a name of the text's for a function of a module -/
theorem se_Bfun {x : Str} {id : String} {p : Pos} {o : List D → Option D} (hK : X.K = B.K) (hc : ∃ r, CallR X (.builtin id) r ∧ OpN X.K r o) (hm : X.mg x = some (.builtin id)) (ha : SA X B W (e :: es) k) (hg : Gl X x := by rfl) (hdb : (x == ("__debug__" : Str)) = false := by decide)
    (he : starEach (e :: es) X.env = (false, eval e X.env) :: starEach es X.env := by rfl) (hpl : (backTo pos (starEach es X.env)).any (·.1) = false := by rfl) : SE X B W (.Call (.Name x p) (e :: es) [] pos) (opnF o k) := by
  obtain ⟨r, h1, h2⟩ := hc
  exact PE.imp (pe_callBfun h1 hg hm ha hdb he hpl) fun σ H Q p => n_run (hK ▸ h2) p
end
end Fx

set_option Elab.async false
set_option linter.all false
set_option maxRecDepth 100000
namespace Fx
variable [Tbl]
open PySem L2 PyProof.Rows
/-! ### own lists lent to a call: names and constants as arguments -/
mutual
/-- data without a list, an instance: no matter what may be changed -/
def noL : D → Bool
  | .lst _ => false
  | .fz _ => false
  | .ins _ _ => false
  | .exc _ _ => false
  | .dic _ _ => false
  | .tup xs => noLL xs
  | _ => true
def noLL : List D → Bool
  | [] => true
  | x :: xs => noL x && noLL xs
end
mutual
theorem Rp.any {K : PySem.W.Frag} {M M' : MS} {H : Hp} : ∀ {v : V} {d : D}, Rp K M H v d → noL d = true → Rp K M' H v d
  | _, _, .non, _ => .non
  | _, _, .bl b, _ => .bl b
  | _, _, .int i, _ => .int i
  | _, _, .str x, _ => .str x
  | _, _, .ty n, _ => .ty n
  | _, _, .ref a, _ => .ref a
  | _, _, .lst h n l, e => by unfold noL at e; cases e
  | _, _, .fz h n l, e => by unfold noL at e; cases e
  | _, _, .fzK h l, e => by unfold noL at e; cases e
  | _, _, .tup h l, e => by unfold noL at e; exact .tup h (RpL.any l e)
  | _, _, .tupK h l, e => by unfold noL at e; exact .tupK h (RpL.any l e)
  | _, _, .ins h n c q l, e => by unfold noL at e; cases e
  | _, _, .exc0 _ _ _, e => by unfold noL at e; cases e
  | _, _, .exc _ _ _ _ _ _ _, e => by unfold noL at e; cases e
  | _, _, .dic _ _ _ _, e => by unfold noL at e; cases e
theorem RpL.any {K : PySem.W.Frag} {M M' : MS} {H : Hp} : ∀ {vs : List V} {ds : List D}, RpL K M H vs ds → noLL ds = true → RpL K M' H vs ds
  | _, _, .nil, _ => .nil
  | _, _, .cons h t, e => by
    unfold noLL at e
    rw [Bool.and_eq_true] at e
    exact .cons (Rp.any h e.1) (RpL.any t e.2)
end
/-- what is left when the slots L are lent -/
def Lent (M : MS) (σ : L2.St) (L : List Nat) : MS := fun b => M b ∧ ∀ i ∈ L, σ[i]? ≠ some (some (.ref b))
section
variable {X : Cx} {B : Bs} {W : WX} {e : Expr} {es : List Expr} {pos : Pos} {L : List Nat}
/-- what an argument is worth, read from the slots -/
abbrev FA := List Sl → Option (List D)
def tL (B : Bs) (L : List Nat) (f : FA) : TA := fun σ H Q => ∃ M s ds, SR B M σ H s ∧ f s = some ds ∧ ∀ vs, RpL B.K (Lent M σ L) H vs ds → Q vs H
def SL (X : Cx) (B : Bs) (L : List Nat) (es : List Expr) (f : FA) : Prop := PA X es (tL B L f)
def nilL : FA := fun _ => some []
def nameL (i : Nat) (f : FA) : FA := fun s => match s[i]?, f s with
  | some (.va d), some ds => some (d :: ds)
  | _, _ => none
def lendL (i : Nat) (f : FA) : FA := fun s => match s[i]?, f s with
  | some (.ow m), some ds => some (m.d :: ds)
  | some (.io m), some ds => some (m.d :: ds)
  | some (.va d), some ds => some (d :: ds)
  | _, _ => none
def conL (d : D) (f : FA) : FA := fun s => (f s).map (d :: ·)
theorem sl_nil : SL X B L [] nilL := PA.imp pa_nil fun σ H Q ⟨M, s, ds, r, e, p⟩ => by
  cases e
  exact p [] .nil
theorem sl_int {i : Int} {j : Nat} {p : Pos} {f : FA} (hr : SL X B L es f) (hs : starEach (.Constant (.int i) j p :: es) X.env = (false, eval (.Constant (.int i) j p) X.env) :: starEach es X.env := by rfl) : SL X B L (.Constant (.int i) j p :: es) (conL (.int i) f) :=
  PA.imp (pa_cons pe_int hr hs) fun σ H Q ⟨M, s, ds, r, e, q⟩ => by
    unfold conL at e
    cases h : f s with
    | none => rw [h] at e; cases e
    | some es =>
      rw [h] at e
      cases e
      exact ⟨M, s, es, r, h, fun vs l => q _ (.cons (.int i) l)⟩
theorem sl_name (i : Nat) {x : Str} {p : Pos} {f : FA} (hr : SL X B L es f) (hN : X.N[i]? = some x := by rfl) (hv : Vis X.env.scope x := by first | exact Or.inl rfl | exact Or.inr (Or.inl rfl) | exact Or.inr (Or.inr rfl)) (hd : (x == ("__debug__" : Str)) = false := by decide) (hcd : (x == ("__classdict__" : Str)) = false := by decide)
    (hs : starEach (.Name x p :: es) X.env = (false, eval (.Name x p) X.env) :: starEach es X.env := by rfl) : SL X B L (.Name x p :: es) (nameL i f) :=
  PA.imp (pa_cons (pe_var hN hv hd hcd) hr hs) fun σ H Q ⟨M, s, ds, r, e, q⟩ => by
    unfold nameL at e
    split at e
    · rename_i d es h1 h2
      cases e
      obtain ⟨v, e1, q1⟩ := r.va i d h1
      exact ⟨v, e1, M, s, es, r, h2, fun vs l => q _ (.cons (q1.move r.mo (.sub fun b z => z.1)) l)⟩
    · cases e
theorem sl_lend (i : Nat) {x : Str} {p : Pos} {f : FA} (hi : i ∈ L) (hr : SL X B L es f) (hN : X.N[i]? = some x := by rfl) (hv : Vis X.env.scope x := by first | exact Or.inl rfl | exact Or.inr (Or.inl rfl) | exact Or.inr (Or.inr rfl)) (hd : (x == ("__debug__" : Str)) = false := by decide) (hcd : (x == ("__classdict__" : Str)) = false := by decide)
    (hs : starEach (.Name x p :: es) X.env = (false, eval (.Name x p) X.env) :: starEach es X.env := by rfl) : SL X B L (.Name x p :: es) (lendL i f) :=
  PA.imp (pa_cons (pe_var hN hv hd hcd) hr hs) fun σ H Q ⟨M, s, ds, r, e, q⟩ => by
    have sb : Ev M H (Lent M σ L) H := .sub fun b z => z.1
    unfold lendL at e
    split at e
    · rename_i m es h1 h2
      cases e
      obtain ⟨a, o, e1, g1, g2, g3, g4⟩ := r.ow i m h1
      exact ⟨_, e1, M, s, es, r, h2, fun vs l => q _ (.cons ((g4.move r.mo sb).rp g1 fun z => z.2 i hi e1) l)⟩
    · rename_i m es h1 h2
      cases e
      obtain ⟨z, a, o, g0, e1, g1, g2, g4⟩ := r.io i m h1
      subst z
      exact ⟨_, e1, M, s, es, r, h2, fun vs l => q _ (.cons ((g4.move r.mo sb).rp g1 fun z => z.2 0 hi e1) l)⟩
    · rename_i d es h1 h2
      cases e
      obtain ⟨v, e1, q1⟩ := r.va i d h1
      exact ⟨v, e1, M, s, es, r, h2, fun vs l => q _ (.cons (q1.move r.mo sb) l)⟩
    · cases e
/-- f(own, ..): the own lists come back -/
def callLF (Fn : List D → FR) (n : Nat) (f : FA) : F D := fun s => match f s with
  | some ds => if ds.length = n then match Fn ds with
    | .ret d _ => if noL d = true then .ok d s else .no
    | .retn es _ => if noLL es = true then .ok (.lst es) s else .no
    | _ => .no
    else .no
  | none => .no
def callLN (Fn : List D → FR) (n : Nat) (f : FA) : F (List D) := fun s => match f s with
  | some ds => if ds.length = n then match Fn ds with
    | .retn es _ => if noLL es = true then .ok es s else .no
    | _ => .no
    else .no
  | none => .no
theorem Lent.mok {M : MS} {σ : L2.St} {H : Hp} (m : MOk M H) : MOk (Lent M σ L) H := fun b z => m b z.1
structure DnL (X : Cx) (B : Bs) (W : WX) (x : Str) (n : Nat) (Fn : List D → FR) : Prop where
  ex : ∃ (k : Nat) (f : Addr) (fd : FuncData) (ps : List Str), FnG X.prog X.w X.K X.mg X.base k f fd ps (spF B.K false n Fn) ∧ Room k X.A ∧ X.A.guards = some [] ∧ Gl X x ∧ X.mg x = some (.ref f) ∧ PySem.W.keepIn X.K (.ref f) = true ∧
    KBinds X.K fd ps [] (pickG n 0 [] (List.range n)) (pickG n 0 [] (List.range n))
  tk : Takes X W
theorem Kn.dnL {P : Program} {w : World} {K : PySem.W.Frag} {mg : Str → Option Value} {base : Heap} {x qual : Str} {st : Stmt} {k j : Nat} {ps : List Str} {Fn : List D → FR} (kn : Kn P w K mg base x qual st k false ps Fn)
    (hX : X.prog = P ∧ X.w = w ∧ X.K = K ∧ X.mg = mg ∧ X.base = base) (hK : B.K = K) (hr : Room j X.A) (hk : k ≤ j) (hq : X.A.guards = some []) (hg : Gl X x) (tk : Takes X W) (hp : 0 < ps.length)
    (h : ∀ (kV doc pm : Value) (an : Option Addr) (cdv ct : Value) (us ws : List Value), us.length = ps.length → ws.length = ([] : List Str).length → bindArgs (PySem.W.fnOf x qual (defArgs st) (defBody st) (defScope st) .none kV doc pm an cdv ct) ⟨us, ([] : List Str).zip ws⟩ = pure (ps.zip ((List.range ps.length).filterMap fun i => (us ++ ws ++ [])[i]?))) :
    DnL X B W x ps.length Fn := by
  obtain ⟨rfl, rfl, rfl, rfl, rfl⟩ := hX
  obtain ⟨f, fd, F, G, hm⟩ := kn.ex
  exact ⟨⟨k, f, fd, ps, hK ▸ G, hr.mono hk, hq, hg, hm, F.kp, Fun.kb (ks := []) F hp h⟩, tk⟩
theorem se_callL {x : Str} {p : Pos} {n : Nat} {Fn : List D → FR} {f : FA} (D0 : DnL X B W x n Fn) (ha : SL X B L (e :: es) f) (hdb : (x == ("__debug__" : Str)) = false := by decide) (he : starEach (e :: es) X.env = (false, eval e X.env) :: starEach es X.env := by rfl) (hpl : (backTo pos (starEach es X.env)).any (·.1) = false := by rfl) :
    SE X B W (.Call (.Name x p) (e :: es) [] pos) (callLF Fn n f) := by
  obtain ⟨⟨k, fa, fd, ps, F, hr, hq, hg, hm, hk, hb⟩, tk⟩ := D0
  refine PE.imp (pe_callT F hr hq hg hm hk hb (passAt tk) ha hdb he hpl) fun σ H Q ⟨M, s, r, p⟩ => ?_
  unfold callLF at p
  split at p
  · rename_i ds hf
    split at p
    · rename_i hn
      refine ⟨M, s, ds, r, hf, fun vs l => ?_⟩
      have hl : vs.length = n := l.length.trans hn
      show spF B.K false n Fn (pickG n 0 [] (List.range n) vs []) H Q (WE W σ)
      rw [pick_range hl]
      refine ⟨hl, Lent M σ L, ds, Lent.mok r.mo, r.tb, l, ?_⟩
      split at p
      · rename_i d ios hF
        rw [hF]
        split at p
        · rename_i hd
          intro v H' st tb _ q
          exact p v H' M (r.gro (gro_of rfl st tb)) (q.any hd) (.gro (gro_of rfl st tb))
        · exact p.elim
      · rename_i es' ios hF
        rw [hF]
        split at p
        · rename_i hd
          intro a xs H' st tb hn2 hp _ q
          exact p (.ref a) H' M (r.gro (gro_of rfl st tb)) (.lst hp (r.mo.thereF hn2) (q.any hd)) (.gro (gro_of rfl st tb))
        · exact p.elim
      · exact p.elim
    · exact p.elim
  · exact p.elim
end
end Fx

set_option Elab.async false
set_option linter.all false
set_option maxRecDepth 100000
namespace Fx
variable [Tbl]
open PySem L2 PyProof.Rows
/-! ### tuple assignment with own lists among the parts -/
inductive AR where
  | va (d : D) | ow (ds : List D)
/-- parts come to: values, and owned lists that are locked -/
inductive Lk (M : MS) (H : Hp) : Bs → List V → List AR → Bs → Prop
  | nil {B : Bs} : Lk M H B [] [] B
  | va {B B' : Bs} {v : V} {d : D} {vs : List V} {as : List AR} : Rp B.K M H v d → Lk M H B vs as B' → Lk M H B (v :: vs) (.va d :: as) B'
  | ow {B B' : Bs} {p : Addr} {xs : List V} {ds : List D} {vs : List V} {as : List AR} : B.L p = none → Fr0 B.H0 p → RpL B.K M H xs ds → Lk M H (B.lock p (.lst xs)) vs as B' → Lk M H B (.ref p :: vs) (.ow ds :: as) B'
def PostM (B : Bs) (W : WX) (M : MS) (H : Hp) (σ : L2.St) (r : R (List AR)) (Q : List V → Hp → Prop) : Prop := match r with
  | .ok as s' => ∀ vs H' M' B', SR B' M' σ H' s' → Lk M' H' B vs as B' → Ev M H M' H' → Q vs H'
  | .er x s' => ∀ cls od H' M', SR B M' σ H' s' → XR B.K M' H' cls od x → Ev M H M' H' → W cls od σ H'
  | .no => False
def tM (B : Bs) (W : WX) (f : F (List AR)) : TA := fun σ H Q => ∃ M s, SR B M σ H s ∧ PostM B W M H σ (f s) Q
def SM (X : Cx) (B : Bs) (W : WX) (es : List Expr) (f : F (List AR)) : Prop := PA X es (tM B W f)
section
variable {X : Cx} {B : Bs} {W : WX} {e : Expr} {es : List Expr} {pos : Pos} {M M' : MS} {σ : L2.St} {H H' : Hp} {s : List Sl}
theorem PostM.later {r : R (List AR)} {Q : List V → Hp → Prop} (h : PostM B W M H σ r Q) (ev : Ev M H M' H') : PostM B W M' H' σ r Q := by
  cases r with
  | ok d s' => exact fun v H2 M2 B' a b c => h v H2 M2 B' a b (ev.trans c)
  | er x s' => exact fun cls od H2 M2 a b c => h cls od H2 M2 a b (ev.trans c)
  | no => exact h
theorem Lk.K {B B' : Bs} {vs : List V} {as : List AR} (h : Lk M H B vs as B') : B'.K = B.K := by
  induction h with
  | nil => rfl
  | va _ _ ih => exact ih
  | ow _ _ _ _ ih => exact ih
/-- an owned list is in no slot -/
theorem Owned.out {p : Addr} {ds : List D} (q : Owned B σ s M H p ds) (r : SR B M σ H s) : ¬ Own σ s p := by
  obtain ⟨xs, h1, h2, h3, h4, hL, h5⟩ := q
  rintro ⟨i, o, e | e, e1⟩
  · exact h5 i o e e1
  · obtain ⟨z, a, zs, p2, e2, q, m, l⟩ := r.io i o e
    subst z
    rw [e1] at e2
    cases e2
    exact r.bm.thereF h3 (r.pa p p2).1
def ownedV : List V → List AR → List V
  | v :: vs, .ow _ :: as => v :: ownedV vs as
  | _ :: vs, .va _ :: as => ownedV vs as
  | _, _ => []
/-- let go: each is owned, and they are different -/
inductive Os (B : Bs) (σ : L2.St) (s : List Sl) (M : MS) (H : Hp) : List V → List AR → Prop
  | nil : Os B σ s M H [] []
  | va {v : V} {d : D} {vs : List V} {as : List AR} : Rp B.K M H v d → Os B σ s M H vs as → Os B σ s M H (v :: vs) (.va d :: as)
  | ow {p : Addr} {ds : List D} {vs : List V} {as : List AR} : Owned B σ s M H p ds → V.ref p ∉ ownedV vs as → Os B σ s M H vs as → Os B σ s M H (.ref p :: vs) (.ow ds :: as)
theorem Bs.lock_L {B : Bs} {p q : Addr} {o : HO} : (B.lock p o).L q = if q = p then some o else B.L q := rfl
theorem Lk.free {B B' : Bs} {vs : List V} {as : List AR} (h : Lk M H B vs as B') : ∀ {p : Addr}, B.L p ≠ none → V.ref p ∉ ownedV vs as := by
  induction h with
  | nil => intro p _ z; exact nomatch z
  | va _ _ ih => intro p hp; unfold ownedV; exact ih hp
  | @ow B B' q xs ds vs as h1 h2 h3 h4 ih =>
    intro p hp
    unfold ownedV
    rw [List.mem_cons, not_or]
    refine ⟨fun z => ?_, ih ?_⟩
    · cases z; exact hp h1
    · rw [Bs.lock_L]
      split
      · exact nofun
      · exact hp
theorem Lk.L {B B' : Bs} {vs : List V} {as : List AR} (h : Lk M H B vs as B') : ∀ {p : Addr} {o : HO}, B.L p = some o → B'.L p = some o := by
  induction h with
  | nil => exact id
  | va _ _ ih => exact ih
  | @ow B B' q xs ds vs as h1 h2 h3 h4 ih =>
    intro p o hp
    refine ih ?_
    rw [Bs.lock_L]
    split
    · rename_i z; subst z; rw [h1] at hp; cases hp
    · exact hp
theorem Lk.unl {B B' : Bs} {vs : List V} {as : List AR} (h : Lk M H B vs as B') (r : SR B' M σ H s) : SR B M σ H s ∧ Os B σ s M H vs as := by
  induction h with
  | nil => exact ⟨r, .nil⟩
  | va q _ ih => exact ⟨(ih r).1, .va q (ih r).2⟩
  | @ow B B' p xs ds vs as h1 h2 h3 h4 ih =>
    obtain ⟨r1, o1⟩ := ih r
    have hp : (B.lock p (.lst xs)).L p = some (.lst xs) := by rw [Bs.lock_L, if_pos rfl]
    obtain ⟨l1, l2, l3⟩ := r1.lk p _ hp
    have r2 := r1.unlock h1
    refine ⟨r2, .ow ⟨xs, l2, l1, h2, h3, h1, fun j es e z => l3 ⟨j, es, .inl e, z⟩⟩ (h4.free (by rw [hp]; exact nofun)) ?_⟩
    clear ih r1 h4
    induction o1 with
    | nil => exact .nil
    | va q _ ih => exact .va q ih
    | ow q n _ ih =>
      refine .ow ?_ n ih
      obtain ⟨ys, a1, a2, a3, a4, a5, a6⟩ := q
      refine ⟨ys, a1, a2, a3, a4, ?_, a6⟩
      rw [Bs.lock_L] at a5
      split at a5
      · cases a5
      · exact a5
def toSl : AR → Sl
  | .va d => .va d
  | .ow ds => .ow (.l ds)
def putA : List Nat → List AR → List Sl → Option (List Sl)
  | [], [], s => some s
  | i :: is, a :: as, s => if okSl s i = true then putA is as (s.set i (toSl a)) else none
  | _, _, _ => none
def setV : List Nat → List V → L2.St → L2.St
  | i :: is, v :: vs, σ => setV is vs (σ.set i (some v))
  | _, _, σ => σ
theorem Os.len {vs : List V} {as : List AR} (h : Os B σ s M H vs as) : vs.length = as.length := by
  induction h with
  | nil => rfl
  | va _ _ ih => exact congrArg (· + 1) ih
  | ow _ _ _ ih => exact congrArg (· + 1) ih
theorem Os.set {vs : List V} {as : List AR} {i : Nat} {v : V} {x : Sl} (h : Os B σ s M H vs as) (hx : ∀ p es, x = .ow es → v = .ref p → V.ref p ∉ ownedV vs as) : Os B (σ.set i (some v)) (s.set i x) M H vs as := by
  induction h with
  | nil => exact .nil
  | va q _ ih => exact .va q (ih hx)
  | @ow p ds vs as q n _ ih =>
    unfold ownedV at hx
    refine .ow ?_ n (ih fun p es e1 e2 z => hx p es e1 e2 (List.mem_cons_of_mem _ z))
    obtain ⟨ys, a1, a2, a3, a4, a5, a6⟩ := q
    refine ⟨ys, a1, a2, a3, a4, a5, fun j es e z => ?_⟩
    rcases nth_set e with ⟨rfl, e1⟩ | ⟨hj, e1⟩
    · cases e1
      rcases nth_set z with ⟨_, e2⟩ | ⟨hj, e2⟩
      · cases e2
        exact hx p es rfl rfl List.mem_cons_self
      · exact hj rfl
    · rw [List.getElem?_set_ne hj] at z
      exact a6 j es e1 z
theorem Os.put {as : List AR} : ∀ {is : List Nat} {vs : List V} {σ : L2.St} {s s' : List Sl}, Os B σ s M H vs as → SR B M σ H s → putA is as s = some s' → SR B M (setV is vs σ) H s' := by
  induction as with
  | nil =>
    intro is vs σ s s' h r e
    cases h
    cases is with
    | nil => cases e; exact r
    | cons _ _ => cases e
  | cons a as ih =>
    intro is vs σ s s' h r e
    cases is with
    | nil => cases e
    | cons i is =>
      unfold putA at e
      split at e
      · rename_i ok
        cases h with
        | @va v d vs _ q h =>
          show SR B M (setV is vs (σ.set i (some v))) H s'
          exact ih (h.set (x := .va d) fun p es e1 _ => nomatch e1) (r.put q (okSl.io ok) (okSl.lt ok)) e
        | @ow p ds vs _ q n h =>
          show SR B M (setV is vs (σ.set i (some (.ref p)))) H s'
          obtain ⟨xs, h1, h2, h3, h4, hL, h5⟩ := q
          exact ih (h.set (x := .ow (.l ds)) fun q es _ e2 => by cases e2; exact n) (r.putOw h1 h2 h3 (.l h4) h5 hL (okSl.io ok) (okSl.lt ok)) e
      · cases e
def nilM : F (List AR) := fun s => .ok [] s
def vaM (f : F D) (k : F (List AR)) : F (List AR) := fun s => (f s).bind fun x s1 => (k s1).bind fun xs s2 => .ok (.va x :: xs) s2
def owM (f : F (List D)) (k : F (List AR)) : F (List AR) := fun s => (f s).bind fun x s1 => (k s1).bind fun xs s2 => .ok (.ow x :: xs) s2
theorem sm_nil : SM X B W [] nilM := PA.imp pa_nil fun σ H Q ⟨M, s, r, p⟩ => p [] H M B r .nil .rfl
theorem PostM.bind {α β : Type} {rho : RelT β α} {r : R α} {g : α → F (List AR)} {Q : List V → Hp → Prop} {Q1 : β → Hp → Prop} (h : PostM B W M H σ (r.bind g) Q)
    (k : ∀ d s1 M1 H1 x, SR B M1 σ H1 s1 → rho M1 H1 x d → Ev M H M1 H1 → PostM B W M1 H1 σ (g d s1) Q → Q1 x H1) : Post B W rho M H σ r Q1 := by
  cases r with
  | ok d s' => exact fun v H2 M2 a b c => k d s' M2 H2 v a b c (PostM.later h c)
  | er x s' => exact h
  | no => exact h
theorem PostM.bindN {r : R (List D)} {g : List D → F (List AR)} {Q : List V → Hp → Prop} {Q1 : VK} (h : PostM B W M H σ (r.bind g) Q)
    (k : ∀ ds s1 M1 H1 p, SR B M1 σ H1 s1 → Owned B σ s1 M1 H1 p ds → Ev M H M1 H1 → PostM B W M1 H1 σ (g ds s1) Q → Q1 (.ref p) H1) : PostN B W M H σ r Q1 := by
  cases r with
  | ok d s' => exact fun v H2 M2 a b c => k d s' M2 H2 v a b c (PostM.later h c)
  | er x s' => exact h
  | no => exact h
theorem sm_va {f : F D} {k : F (List AR)} (ha : SE X B W e f) (hr : SM X B W es k) (hs : starEach (e :: es) X.env = (false, eval e X.env) :: starEach es X.env := by rfl) : SM X B W (e :: es) (vaM f k) := by
  refine PA.imp (pa_cons ha hr hs) fun σ H Q ⟨M, s, r, p⟩ => ?_
  refine ⟨M, s, r, PostM.bind p fun x s1 M1 H1 v r1 q1 ev1 p1 => ⟨M1, s1, r1, ?_⟩⟩
  cases hk : k s1 with
  | no => rw [hk] at p1; exact p1
  | er x s2 => rw [hk] at p1; exact p1
  | ok xs s2 =>
    rw [hk] at p1
    exact fun vs H2 M2 B' r2 l2 ev2 => p1 (v :: vs) H2 M2 B' r2 (.va (q1.move r1.mo ev2) l2) ev2
theorem sm_ow {f : F (List D)} {k : F (List AR)} (ha : SN X B W e f) (hr : ∀ B' : Bs, B'.K = B.K → SM X B' W es k) (hs : starEach (e :: es) X.env = (false, eval e X.env) :: starEach es X.env := by rfl) : SM X B W (e :: es) (owM f k) := by
  refine PA.imp (pa_cons (t := fun σ H Q => ∃ B' : Bs, B'.K = B.K ∧ tM B' W k σ H Q) ha ⟨fun z pins s σ H Q I ⟨B', hB, q⟩ => (hr B' hB).run z pins s σ H Q I q⟩ hs) fun σ H Q ⟨M, s, r, p⟩ => ?_
  refine ⟨M, s, r, PostM.bindN p fun x s1 M1 H1 v r1 q1 ev1 p1 => ?_⟩
  have out := q1.out r1
  obtain ⟨xs, h1, h2, h3, h4, hL, h5⟩ := q1
  refine ⟨B.lock v (.lst xs), rfl, M1, s1, r1.locked h1 h2 out, ?_⟩
  cases hk : k s1 with
  | no => rw [hk] at p1; exact p1
  | er x s2 =>
    rw [hk] at p1
    exact fun cls od H' M' a b => p1 cls od H' M' (a.unlock hL) b
  | ok ys s2 =>
    rw [hk] at p1
    exact fun vs H2 M2 B' r2 l2 ev2 => p1 (.ref v :: vs) H2 M2 B' r2 (.ow hL h3 (h4.move r1.mo ev2) l2) ev2
/-- the names take the parts -/
def parMG (is : List Nat) (k : F (List AR)) : G := fun s => (k s).out fun as s1 => match putA is as s1 with
  | some s2 => .nx s2
  | none => .no
theorem PostM.outS {r : R (List AR)} {g : List AR → G} {E : Ends} {Q1 : List V → Hp → Prop} (h : PostS B W M H (r.out g) E)
    (k : ∀ as s1 M1 H1 vs, SR B M1 σ H1 s1 → Os B σ s1 M1 H1 vs as → Ev M H M1 H1 → PostS B W M1 H1 (g as s1) E → Q1 vs H1) : PostM B W M H σ r Q1 := by
  cases r with
  | ok as s' => exact fun vs H2 M2 B' r2 l2 ev2 => let ⟨a, b⟩ := l2.unl r2; k as s' M2 H2 vs a b ev2 (PostS.later h ev2)
  | er x s' => exact fun cls od H' M' a b => h cls od σ H' M' a b
  | no => exact h
theorem ss_par2M {k : F (List AR)} {a b : Expr} {i j : Nat} {x y : Str} {px py pt : Pos} {kt k2 pt2} (hc : X.calm = true) (hN : X.N.Nodup) (hi : X.N[i]? = some x) (hj : X.N[j]? = some y) (hij : i ≠ j) (hx : X.env.scope.names.lookup x = some .local) (hy : X.env.scope.names.lookup y = some .local) (ha : SM X B W [a, b] k)
    (hw : swappedStores [.Tuple [.Name x px, .Name y py] kt pt] (.Tuple [a, b] k2 pt2) X.env = pure (some [x, y]))
    (hs : swapsWithSole [.Tuple [.Name x px, .Name y py] kt pt] (.Tuple [a, b] k2 pt2) pos.line X.env = pure false := by rfl) : SS X B W (.Assign [.Tuple [.Name x px, .Name y py] kt pt] (.Tuple [a, b] k2 pt2) pos) (parMG [i, j] k) := by
  refine PS.imp (ps_par hc hN hi hj hij hx hy ha hw hs) fun E σ H ⟨M, s, r, p⟩ => ⟨M, s, r, PostM.outS p fun as s1 M1 H1 vs r1 q1 ev1 p1 => ?_⟩
  split at p1
  · rename_i s2 e2
    have r2 := q1.put r1 e2
    match as, vs, q1.len, e2 with
    | [a, b], [u, v], _, _ => exact ⟨u, v, rfl, p1 _ H1 M1 r2 .rfl⟩
    | [], _, _, e => cases e
    | [a], _, _, e => unfold putA at e; split at e <;> cases e
    | a :: b :: c :: _, _, _, e => unfold putA at e; split at e; unfold putA at e; split at e; all_goals cases e
  · exact p1.elim
theorem ss_par3M {k : F (List AR)} {a b c : Expr} {i j l : Nat} {x y z : Str} {px py pz pt : Pos} {kt k2 pt2} (hc : X.calm = true) (hN : X.N.Nodup) (hi : X.N[i]? = some x) (hj : X.N[j]? = some y) (hl : X.N[l]? = some z) (hij : i ≠ j) (hil : i ≠ l) (hjl : j ≠ l) (hx : X.env.scope.names.lookup x = some .local) (hy : X.env.scope.names.lookup y = some .local) (hz : X.env.scope.names.lookup z = some .local) (ha : SM X B W [a, b, c] k)
    (hw : swappedStores [.Tuple [.Name x px, .Name y py, .Name z pz] kt pt] (.Tuple [a, b, c] k2 pt2) X.env = pure (some [x, y, z]))
    (hs : swapsWithSole [.Tuple [.Name x px, .Name y py, .Name z pz] kt pt] (.Tuple [a, b, c] k2 pt2) pos.line X.env = pure false := by rfl) : SS X B W (.Assign [.Tuple [.Name x px, .Name y py, .Name z pz] kt pt] (.Tuple [a, b, c] k2 pt2) pos) (parMG [i, j, l] k) := by
  refine PS.imp (ps_par3 hc hN hi hj hl hij hil hjl hx hy hz ha hw hs) fun E σ H ⟨M, s, r, p⟩ => ⟨M, s, r, PostM.outS p fun as s1 M1 H1 vs r1 q1 ev1 p1 => ?_⟩
  split at p1
  · rename_i s2 e2
    have r2 := q1.put r1 e2
    match as, vs, q1.len, e2 with
    | [a, b, c], [u, v, w], _, _ => exact ⟨u, v, w, rfl, p1 _ H1 M1 r2 .rfl⟩
    | [], _, _, e => cases e
    | [a], _, _, e => unfold putA at e; split at e <;> cases e
    | [a, b], _, _, e => unfold putA at e; split at e; unfold putA at e; split at e; all_goals cases e
    | a :: b :: c :: d :: _, _, _, e => unfold putA at e; split at e; unfold putA at e; split at e; unfold putA at e; split at e; all_goals cases e
  · exact p1.elim
end
/-! ### one or the other reading of an operator -/
def orD (f g : D → D → Option D) (x y : D) : Option D := match f x y with
  | some z => some z
  | none => g x y
theorem op_orD {X : Cx} {K : PySem.W.Frag} {o : Value → Value → Sem Value} {f g : D → D → Option D} (h1 : ∃ r, OpR X o r ∧ Op2T K r f) (h2 : ∃ r, OpR X o r ∧ Op2 K r g) : ∃ r, OpR X o r ∧ Op2T K r (orD f g) := by
  obtain ⟨r1, a1, b1⟩ := h1
  obtain ⟨r2, a2, b2⟩ := h2
  refine ⟨_, OpR.or a1 a2, fun x y d e M H v u Q m tk qx qy k => ?_⟩
  unfold orD at e
  split at e
  · rename_i z hz
    cases e
    exact .inl (b1 x y _ hz M H v u Q m tk qx qy k)
  · exact .inr (b2.t x y d e M H v u Q m tk qx qy k)
end Fx

set_option Elab.async false
set_option linter.all false
set_option maxRecDepth 100000
namespace PySem.W
open PyProof.Rows L2
section
variable {prog : Program} {w : World} {A A₀ : Around} {E : Value → Shared → Prop} {s : Shared} {K : Frag} {x C L f : Addr} {h₀ : Heap} {m : Str → Option Value} {ox : Obj} {od : Option Obj} {name : Str} {b tb : Value}
theorem ifBoundB_K {M : Model} {id : String} {args : List Value} {Q : Option Value → Shared → Prop} (X : K.In s.heap) (I : InstAt s.heap x ox C od) (hs : findIn K (.ref C) name = some (some (.builtin id))) (hb : ∀ self, bindSpecial (.builtin id) self = pure (.builtin id, [self]))
    (h : wpAny M A (call (.builtin id) (.ref x :: args)) (fun v => Q (some v)) E s) : wpAny M A (callSpecialIfBound? (.ref x) name args) Q E s := by
  simp only [callSpecialIfBound?, bindSpecialIfBound?]
  refine wpAny_holding (wpAny_bind (wpAny_bind (wpAny_bind (I.type.here ((looks_findIn X hs).here ?_)))))
  simp only [hb]
  refine wpAny_bind (wpAny_askSetting (wpAny_ite ?_))
  have fin : wpAny M A (call (.builtin id) ([.ref x] ++ args) >>= fun v => pure (some v)) Q E s := wpAny_bind (wpAny_mono h (fun v s' h' => wpAny_pure h') fun _ _ h' => h')
  split
  · exact wpAny_bind (wpAny_pure (wpAny_pure fin))
  · exact wpAny_tryCatch (wpAny_bind (wpAny_pure (wpAny_pure fin)))
theorem check_K {M : Model} {id owner n : String} {rest : List Value} {Q : Unit → Shared → Prop} (X : K.In s.heap) (I : InstAt s.heap x ox C od) (hm : mroIn K C (.type owner) = some true) (hk : builtinKind id = some .slot) (hs : splitId id = some (owner, n))
    (ha : argsOk id ⟨.ref x :: rest, []⟩) (hq : Q () s) : wpAny M A (checkBuiltinCall id ⟨.ref x :: rest, []⟩) Q E s := by
  obtain ⟨hh, g, dr, t, os⟩ := s
  have L0 := I.type (M := M)
  have L1 := looks_mroIn (M := M) X hm
  simp only [checkBuiltinCall, hk, hs]
  refine wpAny_bind ?_
  unfold isInstance
  repeat lk
  cases hsig : Manifest.signature? id with
  | none => exact wpAny_pure hq
  | some sig =>
    simp only [argsOk, hsig] at ha
    have h2 : Bind.checkArgs id sig ⟨.ref x :: rest, []⟩ = pure () := ha
    show wpAny M A (Bind.checkArgs id sig ⟨.ref x :: rest, []⟩) Q E _
    rw [h2]; exact wpAny_pure hq
theorem ne_entry {Q : Fin → Shared → Prop} (X : K.In s.heap) (I : InstAt s.heap x ox C od) (hs : findIn K (.ref C) "__eq__" = some (some (.ref f))) (hf : isFn K (.ref f) = true) (hu : A.units < cLine)
    (hcall : wpAny (model prog w) A (call (.ref f) [.ref x, b]) (fun v s' => ∃ c, v = .bool c ∧ Q (.done (.ret (.bool (!c)))) s') E s) :
    wpAny (model prog w) A (Builtin.«object.__ne__» ⟨[.ref x, b], []⟩) Q E s := by
  obtain ⟨hh, g, dr, t, os⟩ := s
  unfold Builtin.«object.__ne__»
  repeat (first
    | with_reducible refine wpAny_cRoomFor hu ?_
    | (refine wpAny_bind (m := callSpecialIfBound? (.ref x) (Str.ofString "__eq__") [b])
        (ifBound_K X I hs hf (wpAny_mono hcall (fun r s' hr => by
          obtain ⟨b, rfl, hq⟩ := hr
          repeat (first | exact hq | exact wpAny_pure hq | exact wpAny_truthy_bool hq | (refine wpAny_bind (m := truthy (.bool _)) (wpAny_truthy_bool ?_)) | wp_step)) fun _ _ e => e)))
    | wp_step)
/-- x != y, x of a class with an own __eq__ and no own __ne__ -/
theorem ne_K {Q : Value → Shared → Prop} (hu : A.units + 1 < cLine) (F : Fr h₀ L s.heap m) (X₀ : K.In h₀) (I : InstAt s.heap x ox C od) (hb : Looks (model prog w) s.heap (typeOf b) tb) (hn : notFirst K C tb = true)
    (hs : findIn K (.ref C) "__eq__" = some (some (.ref f))) (hf : isFn K (.ref f) = true) (hne : findIn K (.ref C) "__ne__" = some (some (.builtin "object.__ne__"))) (hm : mroIn K C (.type "object") = some true)
    (h : wpAny (model prog w) A.in1 (call (.ref f) [.ref x, b]) (fun v s' => ∃ c, v = .bool c ∧ Q (.bool (!c)) s') E s) : wpAny (model prog w) A (richCompare .NotEq (.ref x) b) Q E s := by
  have X := X₀.keeps F.keep
  have one : wpAny (model prog w) A (tryCompare (.ref x) "__ne__" b) (fun r s' => ∃ v, r = some v ∧ Q v s') E s := by
    simp only [tryCompare]
    refine wpAny_bind (ifBoundB_K X I hne PySem.F.cmp_object.ne.bind (wpAny_call (codeAny_call_builtin PySem.F.cmp_object.ne.plain PySem.F.cmpEntry_ne (check_K X I hm PySem.F.cmpKind_ne PySem.F.cmpSplit_ne (PySem.F.cmpArgs_ne _ _) ?_))))
    refine ne_entry (A := A.in1) X I hs hf hu (wpAny_mono h (fun v s' hv => ?_) fun _ _ e => e)
    obtain ⟨c, rfl, hq⟩ := hv
    first | exact ⟨c, rfl, wpAny_pure ⟨_, rfl, hq⟩⟩ | exact ⟨c, rfl, wpAny_pure (wpAny_pure ⟨_, rfl, hq⟩)⟩ | exact ⟨c, rfl, ⟨_, rfl, hq⟩⟩
  unfold richCompare
  simp only [oneThing_ref]
  refine wpAny_holding (wpAny_bind (wpAny_cRoomFor (Nat.lt_of_succ_lt hu) ?_))
  refine wpAny_bind (I.type.here (wpAny_bind (hb.here ?_)))
  rw [cmpInfo_NotEq]
  split
  · rename_i q
    have e : subIn K tb (.ref C) = some false := by
      rcases Bool.or_eq_true_iff.mp hn with e | e
      · rw [beq_iff_eq.mp e] at q; simp at q
      · exact beq_iff_eq.mp e
    refine wpAny_bind ((looks_subIn X e).here ?_)
    simp only [Bool.false_eq_true, if_false]
    refine wpAny_bind (wpAny_mono one (fun r s' z => ?_) fun _ _ e => e)
    obtain ⟨v, rfl, hq⟩ := z
    exact wpAny_pure hq
  · refine wpAny_bind (wpAny_pure ?_)
    simp only [Bool.false_eq_true, if_false]
    refine wpAny_bind (wpAny_mono one (fun r s' z => ?_) fun _ _ e => e)
    obtain ⟨v, rfl, hq⟩ := z
    exact wpAny_pure hq
end
end PySem.W
namespace Fx
variable [Tbl]
open PySem L2 PyProof.Rows
section
variable {X : Cx} {B : Bs} {W : WX} {k n : Nat} {f : Addr} {fd : FuncData} {ps ks : List Str} {sp : Sp} {E : L2.St → XK} {x : Str} {p pos : Pos} {e : Expr} {es : List Expr} {kws : List Keyword} {t tk : TA} {g : List Value → List Value → List Value} {gV : List V → List V → List V}
theorem run_fnT1 {pins : List (Addr × Obj)} {σ : L2.St} {H : Hp} {s : Shared} {Q : VK} {us ws : List Value} {vs zs : List V} (F : FnG X.prog X.w X.K X.mg X.base k f fd ps sp) (hr : Room k X.A.in1) (hq : X.A.guards = some []) (hb : KBinds X.K fd ps ks g gV) (hx : PassesAt (L2.CX X.prog X.w) X σ (E σ))
    (I : Inv X pins σ H s) (r : Vals vs us) (rz : Vals zs ws) (h : sp (gV vs zs) H Q (E σ)) : wpAny (model X.prog X.w) X.A.in1 (call (.ref f) us (ks.zip ws)) (EP X pins σ Q) X.xe s := by
  have r2 := hb.rel r rz
  have hl : (g us ws).length = ps.length := by rw [← r2.length]; exact F.len _ _ _ _ h
  refine wpAny_call (codeAny_mono (F.run X.A.in1 X.stack s H ⟨us, ks.zip ws⟩ (g us ws) (gV vs zs) Q (E σ) hr hq I.env0.in1 (hb.to s us ws I.kIn hl) r2 h) fun r s' hq => ?_)
  cases r with
  | error e => exact hx pins H s e s' I hq
  | ok fl =>
    cases fl with
    | ret u => exact I.after hq
    | next => exact False.elim hq
    | brk => exact False.elim hq
    | cont => exact False.elim hq
end
structure NeK (K : PySem.W.Frag) (cn : Str) : Prop where
  ex : ∃ C, ClsAt K cn C ∧ PySem.W.findIn K (.ref C) "__ne__" = some (some (.builtin "object.__ne__")) ∧ PySem.W.mroIn K C (.type "object") = some true
def neOwnD (cn : Str) (oks : List Str) (Fn : List D → FR) (x y : D) : Option D := match x with
  | .ins c fs => if c = cn ∧ okY oks y = true then match Fn [.ins c fs, y] with
    | .ret (.bl b) _ => some (.bl (!b))
    | _ => none
    else none
  | _ => none
section
variable {X : Cx}
def rNeOwn (X : Cx) (cn : Str) (oks : List Str) (Fn : List D → FR) : R2 := fun x y H Q => ∃ (M : MS) (c e : D) (b : Bool) (ios : MO), MOk M H ∧ TbOk H ∧ Rp X.K M H x c ∧ Rp X.K M H y e ∧ (∃ fs, c = .ins cn fs) ∧ okY oks e = true ∧ Fn [c, e] = .ret (.bl b) ios ∧ ∀ H', Gro H H' → Q (.bl (!b)) H'
theorem op_neOwn {P : Program} {w : World} {K : PySem.W.Frag} {mg : Str → Option Value} {base : Heap} {cn qual : Str} {st : Stmt} {k j : Nat} {ps : List Str} {Fn : List D → FR} {oks : List Str} (kn : MKn P w K mg base cn "__eq__" qual st k false ps Fn)
    (hX : X.prog = P ∧ X.w = w ∧ X.K = K ∧ X.mg = mg ∧ X.base = base) (hr : Room j X.A) (hk : k + 1 ≤ j) (hq : X.A.guards = some []) (ek : EqK K cn oks) (nk : NeK K cn) (hp : ps.length = 2)
    (h : ∀ (kV doc pm : Value) (an : Option Addr) (cdv ct : Value) (us ws : List Value), us.length = ps.length → ws.length = ([] : List Str).length → bindArgs (PySem.W.fnOf "__eq__" qual (defArgs st) (defBody st) (defScope st) .none kV doc pm an cdv ct) ⟨us, ([] : List Str).zip ws⟩ = pure (ps.zip ((List.range ps.length).filterMap fun i => (us ++ ws ++ [])[i]?))) :
    ∃ r, OpR X (compareOp .NotEq) r ∧ Op2T X.K r (neOwnD cn oks Fn) := by
  obtain ⟨rfl, rfl, rfl, rfl, rfl⟩ := hX
  refine ⟨rNeOwn X cn oks Fn, ?_, fun x y d e M H v u Q m tk qx qy kk => ?_⟩
  · intro pins s σ H x y v u Q I rx ry ⟨M, c, e, b, ios, m, tk, qx, qy, ⟨fs, hc⟩, hy, hF, q⟩
    subst hc
    obtain ⟨C, f, fd, hC, cl, hm, F, G⟩ := kn.ex
    obtain ⟨C2, hC2, e1, e2⟩ := ek.ex
    cases hC.uniq hC2
    obtain ⟨C4, hC4, n1, n2⟩ := nk.ex
    cases hC.uniq hC4
    have qx0 := qx
    cases qx0 with
    | @ins a C' dx _ vs _ h1 h2 h3 h4 h5 =>
    cases hC.uniq h3
    cases rx
    obtain ⟨mA, J, _⟩ := ins_get I.hok h1
    obtain ⟨od, J, _⟩ := J.look
    obtain ⟨mm, hFr⟩ := I.fr
    have lk : ∃ tb, PySem.W.Looks (model X.prog X.w) s.heap (typeOf u) tb ∧ PySem.W.notFirst X.K C tb = true := by
      have base : ∀ t, tyD e = some t → (∀ ks xs, e ≠ .dic ks xs) → ∃ tb, PySem.W.Looks (model X.prog X.w) s.heap (typeOf u) tb ∧ PySem.W.notFirst X.K C tb = true := fun t ht nd => ⟨_, qy.looks rfl I ry ht nd, e2 t (tyD_base ht)⟩
      cases e with
      | ins n gs =>
        obtain ⟨C3, hC3, hn⟩ := e1 n (by simpa [okY] using hy)
        cases qy with
        | @ins a' C'' dx' _ vs' _ g1 g2 g3 g4 g5 =>
          cases hC3.uniq g3
          cases ry
          obtain ⟨mB, J', _⟩ := ins_get I.hok g1
          obtain ⟨od', J', _⟩ := J'.look
          exact ⟨_, J'.type, hn⟩
      | non => exact base _ rfl (fun _ _ z => by cases z)
      | bl _ => exact base _ rfl (fun _ _ z => by cases z)
      | int _ => exact base _ rfl (fun _ _ z => by cases z)
      | str _ => exact base _ rfl (fun _ _ z => by cases z)
      | lst _ => exact base _ rfl (fun _ _ z => by cases z)
      | tup _ => exact base _ rfl (fun _ _ z => by cases z)
      | _ => exact absurd hy (by simp [okY, tyD])
    obtain ⟨tb, hb, hn⟩ := lk
    have hu1 : X.A.units + 1 < cLine := by have := hr.units; omega
    refine PySem.W.ne_K (tb := tb) hu1 hFr I.ok.mod.kin J hb hn hm.at_ hm.fn n1 n2 ?_
    have hsp : spF X.K false ps.length Fn (pickG ps.length 0 [] (List.range ps.length) [.ref a, y] []) H (fun v H' => v = .bl b ∧ Gro H H') (fun _ _ _ => False) := by
      have hl : ([V.ref a, y]).length = ps.length := hp.symm
      rw [pick_range hl]
      refine ⟨hl, M, [.ins cn fs, e], m, tk, .cons qx (.cons qy .nil), ?_⟩
      rw [hF]
      intro v H' st tb _ qv
      cases qv
      exact ⟨rfl, gro_of rfl st tb⟩
    refine wpAny_mono (run_fnT1 (E := fun _ _ _ _ => False) (us := [.ref a, u]) (vs := [.ref a, y]) (ks := []) (ws := []) (zs := []) G (hr.mono hk).in1 hq (Fun.kb (ks := []) F (by omega) h) (fun _ _ _ _ _ _ c => by
      obtain ⟨_, _, _, _, _, _, _, _, _, _, _, _, z⟩ := c
      exact z.elim) I (.cons rfl (.cons ry .nil)) .nil hsp) (fun r s' hr' => ?_) fun _ _ z => z
    obtain ⟨z, H', J2, rz, ez, sm⟩ := hr'
    subst ez
    cases rz
    exact ⟨b, rfl, .bl (!b), H', J2, rfl, q H' sm⟩
  · unfold neOwnD at e
    split at e
    · split at e
      · rename_i c fs hc
        split at e
        · rename_i b ios hF
          cases e
          obtain ⟨rfl, hy⟩ := hc
          exact ⟨M, _, _, b, ios, m, tk, qx, qy, ⟨fs, rfl⟩, hy, hF, fun H' sm => kk _ H' sm (.bl (!b))⟩
        · cases e
      · cases e
    · cases e
end
end Fx

set_option Elab.async false
set_option linter.all false
set_option maxRecDepth 100000
namespace Fx
variable [Tbl]
open PySem L2 PyProof.Rows
/-! ### more steps (for simp) -/
section
variable {s : List Sl} {i n : Nat} {d x y : D} {ds as : List D} {f g h : F D} {k kk : F (List D)} {u v : F Bool} {a : AS} {G1 G2 : G}
theorem ev_fld {ns : List Str} {nm : Str} : fldF ns nm g s = (g s).bind fun d s1 => match d with
  | .ins n fs => if n ∈ ns then toR (fs.lookup nm) s1 else .no
  | _ => .no := rfl
theorem ev_insAt : insAt s i = match s[i]? with
  | some (.va (.ins n fs)) => some (n, fs)
  | some (.ow (.i n fs)) => some (n, fs)
  | some (.io (.i n fs)) => some (n, fs)
  | _ => none := rfl
theorem ev_fldOwn {ns : List Str} {nm : Str} : fldOwnF i ns nm s = match insAt s i with
  | some (n, fs) => if n ∈ ns then toR (fs.lookup nm) s else .no
  | none => .no := rfl
theorem ev_fldG {ns : List Str} {nm : Str} : fldG i ns nm g s = (g s).out fun d s1 => match s1[i]? with
  | some (.ow (.i n fs)) => if n ∈ ns ∧ fs.length < 1000 then .nx (s1.set i (.ow (.i n (putD nm d fs)))) else .no
  | some (.io (.i n fs)) => if n ∈ ns ∧ fs.length < 1000 then .nx (s1.set i (.io (.i n (putD nm d fs)))) else .no
  | _ => .no := rfl
theorem ev_meth {cn m : Str} {Fn : List D → FR} {gD : List D → List D → List D} : methF cn m Fn n gD g k kk s = (g s).bind fun d s1 => match d with
  | .ins c fs => if c = cn ∧ fs.lookup m = none then (k s1).bind fun ds s2 => (kk s2).bind fun es s3 => if (gD (.ins c fs :: ds) es).length = n then ofFR (Fn (gD (.ins c fs :: ds) es)) (fun _ => s3) else .no else .no
  | _ => .no := rfl
theorem ev_make {cn : Str} {Fi : List D → FR} : makeF cn Fi n k s = (k s).bind fun ds s1 => if ds.length + 1 = n then match madeR cn (Fi (.ins cn [] :: ds)) with
    | some (.inl fs) => .ok (.ins cn fs) s1
    | some (.inr x) => .er x s1
    | none => .no
  else .no := rfl
theorem ev_callL {Fn : List D → FR} {fa : FA} : callLF Fn n fa s = match fa s with
  | some ds => if ds.length = n then match Fn ds with
    | .ret d _ => if noL d = true then .ok d s else .no
    | .retn es _ => if noLL es = true then .ok (.lst es) s else .no
    | _ => .no
    else .no
  | none => .no := rfl
theorem ev_noLI {j : Int} : noL (.int j) = true := rfl
theorem ev_nilL : nilL s = some [] := rfl
theorem ev_nameL {fa : FA} : nameL i fa s = match s[i]?, fa s with
  | some (.va d), some ds => some (d :: ds)
  | _, _ => none := rfl
theorem ev_lendL {fa : FA} : lendL i fa s = match s[i]?, fa s with
  | some (.ow m), some ds => some (m.d :: ds)
  | some (.io m), some ds => some (m.d :: ds)
  | some (.va d), some ds => some (d :: ds)
  | _, _ => none := rfl
theorem ev_conL {fa : FA} : conL d fa s = (fa s).map (d :: ·) := rfl
theorem ev_augIx {o : D → D → Option D} : augIxG i o g f s = match ownAt s i with
  | none => .no
  | some _ => (g s).out fun j s1 => match j, ownAt s1 i with
    | .int j, some ds => if 0 ≤ j then match ds[j.toNat]? with
      | some x => (f s1).out fun y s2 => match o x y with
        | some z => match ownPutAt s2 i j.toNat z with
          | some s3 => .nx s3
          | none => .no
        | none => .no
      | none => .no
      else .no
    | _, _ => .no := rfl
theorem ev_putAt {z : D} : ownPutAt s i n z = match ownAt s i with
  | some ds => if n < ds.length then ownPut s i (ds.set n z) else none
  | none => none := rfl
theorem ev_iadd {i j : Int} : iaddD (.int i) (.int j) = some (.int (i + j)) := rfl
theorem ev_isub {i j : Int} : isubD (.int i) (.int j) = some (.int (i - j)) := rfl
theorem ev_revT : revTF f s = (f s).bind fun d s1 => match d with
  | .tup ds => .ok (.tup ds.reverse) s1
  | _ => .no := rfl
theorem ev_enum : enumF f s = (f s).bind fun d s1 => match seqD d with
  | some ds => .ok (enumD ds) s1
  | none => .no := rfl
theorem ev_zip : zipF f g s = (f s).bind fun d s1 => (g s1).bind fun d2 s2 => match seqD d, seqD d2 with
  | some ds, some es => .ok (zipD ds es) s2
  | _, _ => .no := rfl
theorem ev_seqDL : seqD (.lst ds) = some ds := rfl
theorem ev_seqDT : seqD (.tup ds) = some ds := rfl
theorem ev_nilM : nilM s = .ok [] s := rfl
theorem ev_vaM {km : F (List AR)} : vaM f km s = (f s).bind fun x s1 => (km s1).bind fun xs s2 => .ok (.va x :: xs) s2 := rfl
theorem ev_owM {km : F (List AR)} : owM k km s = (k s).bind fun x s1 => (km s1).bind fun xs s2 => .ok (.ow x :: xs) s2 := rfl
theorem ev_parM {is : List Nat} {km : F (List AR)} : parMG is km s = (km s).out fun as s1 => match putA is as s1 with
  | some s2 => .nx s2
  | none => .no := rfl
theorem ev_app : appG i f s = match ownAt s i with
  | none => .no
  | some _ => (f s).out fun y s1 => match ownAt s1 i with
    | some ds => if ds.length < sizeLine then match ownPut s1 i (ds ++ [y]) with
      | some s2 => .nx s2
      | none => .no
      else .no
    | none => .no := rfl
end

/-! ### equality of plain data -/
mutual
def nbP : PyData → Bool
  | .none => true
  | .int _ => true
  | .str _ => true
  | .list xs => nbPL xs
  | .tuple xs => nbPL xs
  | _ => false
def nbPL : List PyData → Bool
  | [] => true
  | x :: xs => nbP x && nbPL xs
end
mutual
theorem inj_py : ∀ (p q : PyData), nbP p = true → nbP q = true → PyData.eqv p q = true → p = q
  | .none, q, _, hq, h => by
    cases q <;> first | rfl | (exfalso; revert h; unfold PyData.eqv; intro h; cases h)
  | .int i, q, _, hq, h => by
    cases q with
    | int j =>
      unfold PyData.eqv at h
      rw [eq_of_beq h]
    | bool b => unfold nbP at hq; cases hq
    | _ => exfalso; revert h; unfold PyData.eqv; intro h; cases h
  | .str i, q, _, hq, h => by
    cases q with
    | str j =>
      unfold PyData.eqv at h
      rw [eq_of_beq h]
    | _ => exfalso; revert h; unfold PyData.eqv; intro h; cases h
  | .list xs, q, hp, hq, h => by
    cases q with
    | list ys =>
      unfold PyData.eqv at h
      unfold nbP at hp hq
      rw [inj_pyL xs ys hp hq h]
    | _ => exfalso; revert h; unfold PyData.eqv; intro h; cases h
  | .tuple xs, q, hp, hq, h => by
    cases q with
    | tuple ys =>
      unfold PyData.eqv at h
      unfold nbP at hp hq
      rw [inj_pyL xs ys hp hq h]
    | _ => exfalso; revert h; unfold PyData.eqv; intro h; cases h
  | .bool b, q, hp, _, _ => by unfold nbP at hp; cases hp
  | .dict b, q, hp, _, _ => by unfold nbP at hp; cases hp
theorem inj_pyL : ∀ (p q : List PyData), nbPL p = true → nbPL q = true → PyData.eqvAll p q = true → p = q
  | [], [], _, _, _ => rfl
  | [], y :: ys, _, _, h => by unfold PyData.eqvAll at h; cases h
  | x :: xs, [], _, _, h => by unfold PyData.eqvAll at h; cases h
  | x :: xs, y :: ys, hp, hq, h => by
    unfold PyData.eqvAll at h
    unfold nbPL at hp hq
    rw [Bool.and_eq_true] at h hp hq
    rw [inj_py x y hp.1 hq.1 h.1, inj_pyL xs ys hp.2 hq.2 h.2]
end
/-! data that == compares; no True, False in it -/
mutual
def laD : D → Bool
  | .non => true
  | .int _ => true
  | .bl _ => true
  | .str x => PyData.strOk x
  | .tup xs => laDL xs
  | .lst xs => laDL xs
  | _ => false
def laDL : List D → Bool
  | [] => true
  | x :: xs => laD x && laDL xs
end
mutual
def nbD : D → Bool
  | .bl _ => false
  | .tup xs => nbDL xs
  | .lst xs => nbDL xs
  | _ => true
def nbDL : List D → Bool
  | [] => true
  | x :: xs => nbD x && nbDL xs
end
mutual
theorem la_py : ∀ d : D, laD d = true → ∃ p, toPy d = some p ∧ p.canLay0 = true ∧ p.depth = shDp d ∧ (nbD d = true → nbP p = true)
  | .non, _ => ⟨.none, rfl, by simp only [PyData.canLay0], by simp only [PyData.depth, shDp], fun _ => by simp only [nbP]⟩
  | .int i, _ => ⟨.int i, rfl, by simp only [PyData.canLay0], by simp only [PyData.depth, shDp], fun _ => by simp only [nbP]⟩
  | .bl b, _ => ⟨.bool b, rfl, by simp only [PyData.canLay0], by simp only [PyData.depth, shDp], fun h => by simp [nbD] at h⟩
  | .str x, h => ⟨.str x, rfl, by simp only [PyData.canLay0]; exact h, by simp only [PyData.depth, shDp], fun _ => by simp only [nbP]⟩
  | .tup xs, h => by
    unfold laD at h
    obtain ⟨ps, e, h1, h2, h3⟩ := la_pyL xs h
    exact ⟨.tuple ps, by unfold toPy; rw [e]; rfl, by simp only [PyData.canLay0]; exact h1, by simp only [PyData.depth, shDp]; rw [h2], fun hn => by unfold nbD at hn; simp only [nbP]; exact h3 hn⟩
  | .lst xs, h => by
    unfold laD at h
    obtain ⟨ps, e, h1, h2, h3⟩ := la_pyL xs h
    exact ⟨.list ps, by unfold toPy; rw [e]; rfl, by simp only [PyData.canLay0]; exact h1, by simp only [PyData.depth, shDp]; rw [h2], fun hn => by unfold nbD at hn; simp only [nbP]; exact h3 hn⟩
  | .ref _, h => by simp [laD] at h
  | .ty _, h => by simp [laD] at h
  | .fz _, h => by simp [laD] at h
  | .ins _ _, h => by simp [laD] at h
theorem la_pyL : ∀ ds : List D, laDL ds = true → ∃ ps, toPyL ds = some ps ∧ PyData.canLayAll0 ps = true ∧ PyData.depthAll ps = shDpL ds ∧ (nbDL ds = true → nbPL ps = true)
  | [], _ => ⟨[], rfl, by simp only [PyData.canLayAll0], by simp only [PyData.depthAll, shDpL], fun _ => by simp only [nbPL]⟩
  | d :: ds, h => by
    unfold laDL at h
    rw [Bool.and_eq_true] at h
    obtain ⟨p, e, a1, a2, a3⟩ := la_py d h.1
    obtain ⟨ps, e2, b1, b2, b3⟩ := la_pyL ds h.2
    exact ⟨p :: ps, by unfold toPyL; rw [e, e2], by simp only [PyData.canLayAll0, a1, b1, Bool.and_self], by simp only [PyData.depthAll, shDpL, a2, b2], fun hn => by
      unfold nbDL at hn
      rw [Bool.and_eq_true] at hn
      simp only [nbPL, a3 hn.1, b3 hn.2, Bool.and_self]⟩
end
mutual
theorem toPy_inj : ∀ (d e : D) (p : PyData), toPy d = some p → toPy e = some p → d = e
  | .non, e, p, h1, h2 => by
    cases h1
    cases e with
    | non => rfl
    | tup ys => unfold toPy at h2; cases h : toPyL ys <;> rw [h] at h2 <;> cases h2
    | lst ys => unfold toPy at h2; cases h : toPyL ys <;> rw [h] at h2 <;> cases h2
    | _ => cases h2
  | .bl b, e, p, h1, h2 => by
    cases h1
    cases e with
    | bl c => cases h2; rfl
    | tup ys => unfold toPy at h2; cases h : toPyL ys <;> rw [h] at h2 <;> cases h2
    | lst ys => unfold toPy at h2; cases h : toPyL ys <;> rw [h] at h2 <;> cases h2
    | _ => cases h2
  | .int b, e, p, h1, h2 => by
    cases h1
    cases e with
    | int c => cases h2; rfl
    | tup ys => unfold toPy at h2; cases h : toPyL ys <;> rw [h] at h2 <;> cases h2
    | lst ys => unfold toPy at h2; cases h : toPyL ys <;> rw [h] at h2 <;> cases h2
    | _ => cases h2
  | .str b, e, p, h1, h2 => by
    cases h1
    cases e with
    | str c => cases h2; rfl
    | tup ys => unfold toPy at h2; cases h : toPyL ys <;> rw [h] at h2 <;> cases h2
    | lst ys => unfold toPy at h2; cases h : toPyL ys <;> rw [h] at h2 <;> cases h2
    | _ => cases h2
  | .tup xs, e, p, h1, h2 => by
    unfold toPy at h1
    cases hx : toPyL xs with
    | none => rw [hx] at h1; cases h1
    | some ps =>
      rw [hx] at h1
      cases h1
      cases e with
      | tup ys =>
        unfold toPy at h2
        cases hy : toPyL ys with
        | none => rw [hy] at h2; cases h2
        | some qs =>
          rw [hy] at h2
          cases h2
          rw [toPyL_inj xs ys ps hx hy]
      | lst ys => unfold toPy at h2; cases h : toPyL ys <;> rw [h] at h2 <;> cases h2
      | _ => cases h2
  | .lst xs, e, p, h1, h2 => by
    unfold toPy at h1
    cases hx : toPyL xs with
    | none => rw [hx] at h1; cases h1
    | some ps =>
      rw [hx] at h1
      cases h1
      cases e with
      | lst ys =>
        unfold toPy at h2
        cases hy : toPyL ys with
        | none => rw [hy] at h2; cases h2
        | some qs =>
          rw [hy] at h2
          cases h2
          rw [toPyL_inj xs ys ps hx hy]
      | tup ys => unfold toPy at h2; cases h : toPyL ys <;> rw [h] at h2 <;> cases h2
      | _ => cases h2
  | .ref _, _, _, h, _ => by cases h
  | .ty _, _, _, h, _ => by cases h
  | .fz _, _, _, h, _ => by cases h
  | .ins _ _, _, _, h, _ => by cases h
theorem toPyL_inj : ∀ (ds es : List D) (ps : List PyData), toPyL ds = some ps → toPyL es = some ps → ds = es
  | [], es, ps, h1, h2 => by
    cases h1
    cases es with
    | nil => rfl
    | cons e es =>
      unfold toPyL at h2
      split at h2 <;> cases h2
  | d :: ds, es, ps, h1, h2 => by
    unfold toPyL at h1
    split at h1
    · rename_i p qs e1 e2
      cases h1
      cases es with
      | nil => cases h2
      | cons e es =>
        unfold toPyL at h2
        split at h2
        · rename_i p' qs' e3 e4
          cases h2
          rw [toPy_inj d e p e1 e3, toPyL_inj ds es qs e2 e4]
        · cases h2
    · cases h1
end
theorem eqG_same {d : D} (h : laD d = true) (h2 : shDp d ≤ 64) : eqG d d = some (.bl true) := by
  obtain ⟨p, e, a1, a2, _⟩ := la_py d h
  have sh : SeqAt.shaped p = true := by unfold SeqAt.shaped; rw [a1, a2, decide_eq_true h2]; rfl
  unfold eqG
  rw [e]
  dsimp only
  rw [if_pos ⟨sh, sh⟩, SeqAt.eqv_refl _ a1]
theorem neG_same {d : D} (h : laD d = true) (h2 : shDp d ≤ 64) : neG d d = some (.bl false) := by
  obtain ⟨p, e, a1, a2, _⟩ := la_py d h
  have sh : SeqAt.shaped p = true := by unfold SeqAt.shaped; rw [a1, a2, decide_eq_true h2]; rfl
  unfold neG
  rw [e]
  dsimp only
  rw [if_pos ⟨sh, sh⟩, SeqAt.eqv_refl _ a1]
  rfl
theorem eq_same {d : D} (h : laD d = true) (h2 : shDp d ≤ 64) : eqD d d = some (.bl true) := by
  cases d with
  | int i => show some (D.bl (decide (i = i))) = _; rw [decide_eq_true rfl]
  | str i => show some (D.bl (decide (i = i))) = _; rw [decide_eq_true rfl]
  | _ => exact eqG_same h h2
theorem ne_same {d : D} (h : laD d = true) (h2 : shDp d ≤ 64) : neD d d = some (.bl false) := by
  cases d with
  | int i => show some (D.bl (!decide (i = i))) = _; rw [decide_eq_true rfl]; rfl
  | str i => show some (D.bl (!decide (i = i))) = _; rw [decide_eq_true rfl]; rfl
  | _ => exact neG_same h h2
theorem eqv_diff {d e : D} {p q : PyData} (h1 : toPy d = some p) (h2 : toPy e = some q) (n1 : nbP p = true) (n2 : nbP q = true) (n : d ≠ e) : PyData.eqv p q = false := by
  cases h : PyData.eqv p q with
  | false => rfl
  | true =>
    have := inj_py p q n1 n2 h
    subst this
    exact absurd (toPy_inj d e p h1 h2) n
theorem eqG_diff {d e : D} (h : laD d = true) (h2 : shDp d ≤ 64) (h3 : nbD d = true) (k : laD e = true) (k2 : shDp e ≤ 64) (k3 : nbD e = true) (n : d ≠ e) : eqG d e = some (.bl false) ∧ neG d e = some (.bl true) := by
  obtain ⟨p, e1, a1, a2, a3⟩ := la_py d h
  obtain ⟨q, e2, b1, b2, b3⟩ := la_py e k
  have sh : SeqAt.shaped p = true := by unfold SeqAt.shaped; rw [a1, a2, decide_eq_true h2]; rfl
  have sk : SeqAt.shaped q = true := by unfold SeqAt.shaped; rw [b1, b2, decide_eq_true k2]; rfl
  unfold eqG neG
  rw [e1, e2]
  dsimp only
  rw [if_pos ⟨sh, sk⟩, if_pos ⟨sh, sk⟩, eqv_diff e1 e2 (a3 h3) (b3 k3) n]
  exact ⟨rfl, rfl⟩
theorem eq_diff {d e : D} (h : laD d = true) (h2 : shDp d ≤ 64) (h3 : nbD d = true) (k : laD e = true) (k2 : shDp e ≤ 64) (k3 : nbD e = true) (n : d ≠ e) : eqD d e = some (.bl false) ∧ neD d e = some (.bl true) := by
  have g := eqG_diff h h2 h3 k k2 k3 n
  have ii : ∀ i j : Int, d = .int i → e = .int j → eqD d e = some (.bl false) ∧ neD d e = some (.bl true) := fun i j e1 e2 => by
    subst e1 e2
    have n' : i ≠ j := fun z => n (by rw [z])
    refine ⟨?_, ?_⟩
    · show some (D.bl (decide (i = j))) = _; rw [decide_eq_false n']
    · show some (D.bl (!decide (i = j))) = _; rw [decide_eq_false n']; rfl
  have ss : ∀ i j : Str, d = .str i → e = .str j → eqD d e = some (.bl false) ∧ neD d e = some (.bl true) := fun i j e1 e2 => by
    subst e1 e2
    have n' : i ≠ j := fun z => n (by rw [z])
    refine ⟨?_, ?_⟩
    · show some (D.bl (decide (i = j))) = _; rw [decide_eq_false n']
    · show some (D.bl (!decide (i = j))) = _; rw [decide_eq_false n']; rfl
  cases d with
  | int i => cases e with
    | int j => exact ii i j rfl rfl
    | _ => exact g
  | str i => cases e with
    | str j => exact ss i j rfl rfl
    | _ => exact g
  | _ => exact g
/-! ### comprehensions that change nothing -/
theorem compL_pure {vs : List Nat} {a : AS} {u : F Bool} {f : F D} {h : D → D} {I : List Sl → Prop} : ∀ (ds : List D) (s : List Sl), I s → (∀ d ∈ ds, ∀ s, I s → ∃ s1 s2 s3, a d (wipeS s vs) = some s1 ∧ u s1 = .ok true s2 ∧ f s2 = .ok (h d) s3 ∧ I s3) →
    ∃ s', compL vs a u f ds s = .ok (ds.map h) s' ∧ I s'
  | [], s, i, _ => ⟨s, rfl, i⟩
  | d :: ds, s, i, k => by
    obtain ⟨s1, s2, s3, e1, e2, e3, i3⟩ := k d List.mem_cons_self s i
    obtain ⟨s', e4, i4⟩ := compL_pure (h := h) ds s3 i3 fun d hd => k d (List.mem_cons_of_mem _ hd)
    refine ⟨s', ?_, i4⟩
    rw [ev_compL1, e1]
    dsimp only
    rw [e2]
    dsimp only
    rw [e3]
    dsimp only
    rw [e4]
    rfl
/-- .. with the slots as they were -/
theorem compN_pure {vs : List Nat} {a : AS} {u : F Bool} {f : F D} {k : F (List D)} (h : D → D) {s s1 : List Sl} {ds : List D} (ek : k s = .ok ds s1) (hl : ds.length < sizeLine) (hv : vs.all (okC s1) = true) (I : List Sl → Prop) (h0 : I s1) (hr : ∀ s', I s' → restS s1 s' vs = s1)
    (hs : ∀ d ∈ ds, ∀ s, I s → ∃ s1 s2 s3, a d (wipeS s vs) = some s1 ∧ u s1 = .ok true s2 ∧ f s2 = .ok (h d) s3 ∧ I s3) : compN k vs a u f s = .ok (ds.map h) s1 := by
  obtain ⟨s', e, i⟩ := compL_pure (h := h) ds s1 h0 hs
  rw [ev_comp, ek, R.bind_ok, if_pos ⟨hl, hv⟩, e]
  dsimp only
  rw [hr s' i]
/-- the form with one own name at slot j -/
theorem compN_1 {j : Nat} {u : F Bool} {f : F D} {k : F (List D)} (h : D → D) {s s1 : List Sl} {ds : List D} (ek : k s = .ok ds s1) (hl : ds.length < sizeLine) {y0 : Sl} (hj : s1[j]? = some y0) (hp : Pl y0) (hu : u = yesT)
    (hs : ∀ d ∈ ds, f (s1.set j (.va d)) = .ok (h d) (s1.set j (.va d))) : compN k [j] (setA j) u f s = .ok (ds.map h) s1 := by
  subst hu
  have hlt : j < s1.length := (List.getElem?_eq_some_iff.mp hj).1
  refine compN_pure h ek hl ?_ (fun s' => ∃ y, Pl y ∧ s' = s1.set j y) ⟨y0, hp, ?_⟩ ?_ ?_
  · rw [List.all_cons, List.all_nil, Bool.and_true, ev_okC, hj]
    dsimp only
    rw [hp.2]
    rfl
  · refine (List.ext_getElem? fun i => ?_)
    by_cases e : j = i
    · subst e; rw [List.getElem?_set_self hlt, hj]
    · rw [List.getElem?_set_ne e]
  · rintro s' ⟨y, _, rfl⟩
    show ((s1.set j y).set j (s1.getD j .un)) = s1
    rw [List.set_set]
    refine (List.ext_getElem? fun i => ?_)
    by_cases e : j = i
    · subst e; rw [List.getElem?_set_self hlt, hj, List.getD_eq_getElem?_getD, hj]; rfl
    · rw [List.getElem?_set_ne e]
  · rintro d hd s ⟨y, hy, rfl⟩
    refine ⟨s1.set j (.va d), s1.set j (.va d), s1.set j (.va d), ?_, rfl, hs d hd, .va d, Pl.va, rfl⟩
    show setA j d ((s1.set j y).set j .un) = _
    rw [List.set_set, ev_setA, ev_ok, List.getElem?_set_self hlt]
    dsimp only
    rw [List.set_set]
    rfl
theorem forL_keep {a : AS} {G1 : G} {I : List Sl → Prop} (ds : List D) (s : List Sl) (h0 : I s) (h : ∀ d ∈ ds, ∀ s, I s → ∃ s1 s2, a d s = some s1 ∧ (G1 s1 = .nx s2 ∨ G1 s1 = .ct s2) ∧ I s2) : ∃ s', forL a G1 ds s = .nx s' ∧ I s' :=
  forL_run (I := fun _ => I) ds 0 s h0 fun j d s e i => h d (List.mem_of_getElem? e) s i
end Fx

set_option Elab.async false
set_option linter.all false
set_option maxRecDepth 100000
namespace Fx
variable [Tbl]
open PySem L2 PyProof.Rows
section
variable {s : List Sl} {i j l n : Nat} {d x y : D} {ds as : List D} {f g h : F D} {k kk : F (List D)} {u v : F Bool} {a : AS} {G1 G2 : G}
theorem ev_par : parG i j k s = (k s).out fun ds s1 => match ds with
  | [x, y] => if okSl s1 i = true ∧ okSl (s1.set i (.va x)) j = true then .nx ((s1.set i (.va x)).set j (.va y)) else .no
  | _ => .no := rfl
theorem ev_par3 : par3G i j l k s = (k s).out fun ds s1 => match ds with
  | [x, y, z] => if okSl s1 i = true ∧ okSl (s1.set i (.va x)) j = true ∧ okSl ((s1.set i (.va x)).set j (.va y)) l = true then .nx (((s1.set i (.va x)).set j (.va y)).set l (.va z)) else .no
  | _ => .no := rfl
end
/-! ### comprehensions, by their sources -/
theorem compL_src {α : Type} {vs : List Nat} {a : AS} {u : F Bool} {f : F D} {p h : α → D} {I : List Sl → Prop} : ∀ (xs : List α) (s : List Sl), I s → (∀ x ∈ xs, ∀ s, I s → ∃ s1 s2 s3, a (p x) (wipeS s vs) = some s1 ∧ u s1 = .ok true s2 ∧ f s2 = .ok (h x) s3 ∧ I s3) →
    ∃ s', compL vs a u f (xs.map p) s = .ok (xs.map h) s' ∧ I s'
  | [], s, i, _ => ⟨s, rfl, i⟩
  | d :: ds, s, i, k => by
    obtain ⟨s1, s2, s3, e1, e2, e3, i3⟩ := k d List.mem_cons_self s i
    obtain ⟨s', e4, i4⟩ := compL_src (p := p) (h := h) ds s3 i3 fun d hd => k d (List.mem_cons_of_mem _ hd)
    refine ⟨s', ?_, i4⟩
    rw [List.map_cons, ev_compL1, e1]
    dsimp only
    rw [e2]
    dsimp only
    rw [e3]
    dsimp only
    rw [e4]
    rfl
theorem compN_src {α : Type} {vs : List Nat} {a : AS} {u : F Bool} {f : F D} {k : F (List D)} (p h : α → D) {s s1 : List Sl} {xs : List α} (ek : k s = .ok (xs.map p) s1) (hl : xs.length < sizeLine) (hv : vs.all (okC s1) = true) (I : List Sl → Prop) (h0 : I s1) (hr : ∀ s', I s' → restS s1 s' vs = s1)
    (hs : ∀ x ∈ xs, ∀ s, I s → ∃ s1 s2 s3, a (p x) (wipeS s vs) = some s1 ∧ u s1 = .ok true s2 ∧ f s2 = .ok (h x) s3 ∧ I s3) : compN k vs a u f s = .ok (xs.map h) s1 := by
  obtain ⟨s', e, i⟩ := compL_src (p := p) (h := h) xs s1 h0 hs
  rw [ev_comp, ek, R.bind_ok, if_pos ⟨by rw [List.length_map]; exact hl, hv⟩, e]
  dsimp only
  rw [hr s' i]
theorem compN_src1 {α : Type} {j : Nat} {u : F Bool} {f : F D} {k : F (List D)} (p h : α → D) {s s1 : List Sl} {xs : List α} (ek : k s = .ok (xs.map p) s1) (hl : xs.length < sizeLine) {y0 : Sl} (hj : s1[j]? = some y0) (hp : Pl y0) (hu : u = yesT)
    (hs : ∀ x ∈ xs, f (s1.set j (.va (p x))) = .ok (h x) (s1.set j (.va (p x)))) : compN k [j] (setA j) u f s = .ok (xs.map h) s1 := by
  subst hu
  have hlt : j < s1.length := (List.getElem?_eq_some_iff.mp hj).1
  refine compN_src p h ek hl ?_ (fun s' => ∃ y, Pl y ∧ s' = s1.set j y) ⟨y0, hp, ?_⟩ ?_ ?_
  · rw [List.all_cons, List.all_nil, Bool.and_true, ev_okC, hj]
    dsimp only
    rw [hp.2]
    rfl
  · refine (List.ext_getElem? fun i => ?_)
    by_cases e : j = i
    · subst e; rw [List.getElem?_set_self hlt, hj]
    · rw [List.getElem?_set_ne e]
  · rintro s' ⟨y, _, rfl⟩
    show ((s1.set j y).set j (s1.getD j .un)) = s1
    rw [List.set_set]
    refine (List.ext_getElem? fun i => ?_)
    by_cases e : j = i
    · subst e; rw [List.getElem?_set_self hlt, hj, List.getD_eq_getElem?_getD, hj]; rfl
    · rw [List.getElem?_set_ne e]
  · rintro x hx s ⟨y, hy, rfl⟩
    refine ⟨s1.set j (.va (p x)), s1.set j (.va (p x)), s1.set j (.va (p x)), ?_, rfl, hs x hx, .va (p x), Pl.va, rfl⟩
    show setA j _ ((s1.set j y).set j .un) = _
    rw [List.set_set, ev_setA, ev_ok, List.getElem?_set_self hlt]
    dsimp only
    rw [List.set_set]
    rfl
theorem zipD_map {α β : Type} {f : α → D} {g : β → D} {xs : List α} {ys : List β} : zipD (xs.map f) (ys.map g) = (xs.zip ys).map fun q => .tup [f q.1, g q.2] := by
  unfold zipD
  rw [List.zip_map, List.map_map]
  rfl
theorem enumD_map {α : Type} {f : α → D} {xs : List α} : enumD (xs.map f) = xs.zipIdx.map fun q => .tup [.int (q.2 : Nat), f q.1] := by
  unfold enumD
  rw [List.zipIdx_map, List.map_map]
  rfl
theorem methE {cn m : Str} {Fn : List D → FR} {n : Nat} {gD : List D → List D → List D} {g : F D} {k kk : F (List D)} {s s1 s2 s3 : List Sl} {fs : List (Str × D)} {ds es : List D} {r : D} {io : MO} (e1 : g s = .ok (.ins cn fs) s1) (h : fs.lookup m = none) (e2 : k s1 = .ok ds s2) (e3 : kk s2 = .ok es s3) (hl : (gD (.ins cn fs :: ds) es).length = n) (e4 : Fn (gD (.ins cn fs :: ds) es) = .ret r io) :
    methF cn m Fn n gD g k kk s = .ok r s3 := by
  rw [ev_meth, e1, R.bind_ok]
  dsimp only
  rw [if_pos ⟨rfl, h⟩, e2, R.bind_ok, e3, R.bind_ok, if_pos hl, e4]
  rfl
theorem makeE {cn : Str} {Fi : List D → FR} {n : Nat} {k : F (List D)} {s s1 : List Sl} {ds : List D} {fs : List (Str × D)} (e1 : k s = .ok ds s1) (hl : ds.length + 1 = n) (e : Fi (.ins cn [] :: ds) = .ret .non (.i cn fs)) : makeF cn Fi n k s = .ok (.ins cn fs) s1 := by
  rw [ev_make, e1, R.bind_ok, if_pos hl, e]
  unfold madeR
  dsimp only
  rw [if_pos rfl]
theorem fldE {ns : List Str} {nm n : Str} {g : F D} {s s1 : List Sl} {fs : List (Str × D)} {d : D} (e : g s = .ok (.ins n fs) s1) (hn : n ∈ ns) (hl : fs.lookup nm = some d) : fldF ns nm g s = .ok d s1 := by
  rw [ev_fld, e, R.bind_ok]
  dsimp only
  rw [if_pos hn, hl, ev_toR1]
theorem callE {Fn : List D → FR} {n : Nat} {gD : List D → List D → List D} {k kk : F (List D)} {s s1 s2 : List Sl} {ds es : List D} {r : D} {io : MO} (e1 : k s = .ok ds s1) (e2 : kk s1 = .ok es s2) (hl : (gD ds es).length = n) (e : Fn (gD ds es) = .ret r io) : callF Fn n gD k kk s = .ok r s2 := by
  rw [ev_call, e1, R.bind_ok, e2, R.bind_ok, if_pos hl, e, ev_ofr]
theorem tupE {k : F (List D)} {s s1 : List Sl} {ds : List D} (e : k s = .ok ds s1) (h : ds.length ≤ sizeLine) : tupF k s = .ok (.tup ds) s1 := by
  rw [ev_tup, e, R.bind_ok, if_pos h]
/-! ### instances, for simp -/
def okIns (cn m : Str) : D → Bool
  | .ins c fs => decide (c = cn) && (fs.lookup m).isNone
  | _ => false
theorem evi_meth {cn m : Str} {Fn : List D → FR} {n : Nat} {gD : List D → List D → List D} {g : F D} {k kk : F (List D)} {s : List Sl} : methF cn m Fn n gD g k kk s = (g s).bind fun d s1 =>
    if okIns cn m d = true then (k s1).bind fun ds s2 => (kk s2).bind fun es s3 => if (gD (d :: ds) es).length = n then ofFR (Fn (gD (d :: ds) es)) (fun _ => s3) else .no else .no := by
  rw [ev_meth]
  congr 1
  funext d s1
  cases d with
  | ins c fs =>
    unfold okIns
    dsimp only
    by_cases h1 : c = cn
    · by_cases h2 : fs.lookup m = none
      · rw [if_pos ⟨h1, h2⟩, if_pos (by rw [decide_eq_true h1, h2]; rfl)]
      · rw [if_neg (fun z => h2 z.2), if_neg (by rw [decide_eq_true h1, Bool.true_and]; intro z; exact h2 (Option.isNone_iff_eq_none.mp z))]
    · rw [if_neg (fun z => h1 z.1), if_neg (by rw [decide_eq_false h1]; exact Bool.false_ne_true)]
  | _ => rfl
def fldD (ns : List Str) (nm : Str) : D → Option D
  | .ins n fs => if n ∈ ns then fs.lookup nm else none
  | _ => none
theorem evi_fld {ns : List Str} {nm : Str} {g : F D} {s : List Sl} : fldF ns nm g s = (g s).bind fun d s1 => toR (fldD ns nm d) s1 := by
  rw [ev_fld]
  congr 1
  funext d s1
  cases d with
  | ins c fs =>
    unfold fldD
    dsimp only
    split <;> rfl
  | _ => rfl
def madeD (cn : Str) (r : FR) : Option D := match madeR cn r with
  | some (.inl fs) => some (.ins cn fs)
  | _ => none
def madeX (cn : Str) (r : FR) (s : List Sl) : R D := match madeR cn r with
  | some (.inr x) => .er x s
  | _ => .no
theorem evi_make {cn : Str} {Fi : List D → FR} {n : Nat} {k : F (List D)} {s : List Sl} : makeF cn Fi n k s = (k s).bind fun ds s1 => if ds.length + 1 = n then match madeD cn (Fi (.ins cn [] :: ds)) with
    | some d => .ok d s1
    | none => madeX cn (Fi (.ins cn [] :: ds)) s1
  else .no := by
  rw [ev_make]
  congr 1
  funext d s1
  split
  · unfold madeD madeX
    cases madeR cn (Fi (.ins cn [] :: d)) with
    | none => rfl
    | some x => cases x <;> rfl
  · rfl
theorem seqE {A C : G} {s s1 : List Sl} (h : A s = .nx s1) : seqG A C s = C s1 := by rw [ev_seq, h]
theorem compL_none {vs : List Nat} {a : AS} {u : F Bool} {f : F D} {I : List Sl → Prop} : ∀ (ds : List D) (s : List Sl), I s → (∀ d ∈ ds, ∀ s, I s → ∃ s1 s2, a d (wipeS s vs) = some s1 ∧ u s1 = .ok false s2 ∧ I s2) → ∃ s', compL vs a u f ds s = .ok [] s' ∧ I s'
  | [], s, i, _ => ⟨s, rfl, i⟩
  | d :: ds, s, i, k => by
    obtain ⟨s1, s2, e1, e2, i2⟩ := k d List.mem_cons_self s i
    obtain ⟨s', e4, i4⟩ := compL_none (f := f) ds s2 i2 fun d hd => k d (List.mem_cons_of_mem _ hd)
    refine ⟨s', ?_, i4⟩
    rw [ev_compL1, e1]
    dsimp only
    rw [e2]
    exact e4
theorem slT_to {ds : List D} {j : Nat} (h : j ≤ ds.length) : slD (.tup ds) none (some (j : Int)) = some (.tup (ds.take j)) := by
  have e1 : HT.sIx ds.length ds.length (some (j : Int)) = min j ds.length := HT.sIx_nat _ _ j
  show (if _ then _ else _) = _
  unfold cutD
  rw [e1, HT.sIx_none, Nat.min_eq_left h, List.drop_zero, Nat.sub_zero]
  split
  · rename_i hh
    rw [List.take_of_length_le (by omega)]
  · rfl
theorem slT_from {ds : List D} {j : Nat} (h : j ≤ ds.length) : slD (.tup ds) (some (j : Int)) none = some (.tup (ds.drop j)) := by
  have e1 : HT.sIx ds.length 0 (some (j : Int)) = min j ds.length := HT.sIx_nat _ _ j
  show (if _ then _ else _) = _
  unfold cutD
  rw [e1, HT.sIx_none, Nat.min_eq_left h]
  split
  · rename_i hh
    rw [hh.1, List.drop_zero]
  · rw [List.take_of_length_le (by rw [List.length_drop]; exact Nat.le_refl _)]
end Fx

set_option Elab.async false
set_option linter.all false
set_option maxRecDepth 100000
/-! Fx, exceptions: super().__init__(..) in an own exception below ValueError. -/
namespace PySem
namespace FxSup
open PySem.W PySem.Calls PyProof.Rows PySem.HandSPX
section
variable {prog : Program} {w : World} {A : Around} {E : Value → Shared → Prop} {h : Heap} {g : Array GenState} {d : Drawn} {t : Nat} {os : OsState}
variable {nm q : Str} {C N : Addr} {bs bm : List Value} {hdct : Bool} {sn : List Str} {sub : List Value} {ab : Bool} {col : Option Bool} {dd : Option Addr} {k0 k1 k2 k3 k5 : Option Value}
/-- ValueError.__init__, bound to e, is called: e's args are laid anew -/
theorem call_mw {u e t0 : Addr} {rest : List Value} {Q : Value → Shared → Prop}
    (hC : h.get? C = some (excClassObj nm q C N bs bm hdct sn sub ab col dd k0 k1 k2 k3 k5 "ValueError.__new__")) (he : h.get? e = some (excO C t0)) (hu : h.get? u = some (kxs_mw "ValueError.__init__" e)) (hz : rest.length ≤ sizeLine)
    (hq : ∀ h' t1, (∀ b o, b ≠ e → h.get? b = some o → h'.get? b = some o) → h'.get? e = some (excO C t1) → Q .none ⟨h', g, d, t, os⟩) :
    wpAny (model prog w) A (call (.ref u) rest) Q E ⟨h, g, d, t, os⟩ := by
  have k : (Value.type "method-wrapper" == Value.type "method" || Value.type "method-wrapper" == Value.type "builtin_function_or_method" || Value.type "method-wrapper" == Value.type "method-wrapper") = true := by decide
  refine wpAny_call (codeAny_of_tree ?_)
  show wpAny _ A.in1 (callAny (.ref u) ⟨rest, []⟩) _ _ _
  simp only [callAny]
  refine wpAny_bind (wpAny_load hu ?_)
  simp only [kxs_mw, k, if_true]
  refine KFB.if_so (by decide) ?_
  refine wpAny_bind (check_bound_init F.excBase_ValueError.toExcCallFacts hC he rfl (wpAny_bind (wpAny_pure (wpAny_pure ?_))))
  refine ⟨plainId_quiet F.excBase_ValueError.init.plain _, codeAny_builtin F.excBase_ValueError.initEntry ?_⟩
  exact exc_init_tree (cls := .ref C) (t0 := t0) (dv := none) (c2 := .none) (c3 := .none) (b4 := .bool false) he hz fun h' kp hx _ => hq h' _ kp hx
end
end FxSup
end PySem
namespace Fx
open PySem L2 PyProof.Rows
theorem lookup_nd {l : List (Str × Value)} {x : Str} {u : Value} (nd : (l.map (·.1)).Nodup) (h : (x, u) ∈ l) : l.lookup x = some u := by
  induction l with
  | nil => cases h
  | cons p l ih =>
    obtain ⟨y, v⟩ := p
    rw [List.map_cons, List.nodup_cons] at nd
    rcases List.mem_cons.mp h with e | e
    · cases e
      simp [List.lookup]
    · have ne : (x == y) = false := by
        simp only [beq_eq_false_iff_ne, ne_eq]
        intro z
        subst z
        exact nd.1 (List.mem_map_of_mem (f := (·.1)) e)
      simp [List.lookup, ne, ih nd.2 e]
abbrev supEnv (qual : Str) (scope : Scope) (L f : Addr) (cd : Value) (cc : Addr) : Env := PySem.W.ksEnv qual scope L f cd cc
/-- the context of an __init__ that names its class -/
def supCx (P : Program) (w : World) (K : PySem.W.Frag) (mg : Str → Option Value) (base : Heap) (N : List Str) (qual : Str) (scope : Scope) (f : Addr) (cd : Value) (cc : Addr) (A : Around) (outer : List Env) (s : Shared) (H : Hp) (E : XK) : Cx where
  prog := P
  w := w
  K := K
  mg := mg
  base := base
  A := A.deeper (supEnv qual scope s.heap.objs.size f cd cc)
  N := N
  s_0 := s
  H_0 := H
  env := supEnv qual scope s.heap.objs.size f cd cc
  outer := outer
  stack := supEnv qual scope s.heap.objs.size f cd cc :: outer
  ex := []
  calm := true
  fn := fun _ => false
  pn := []
  xe := fun e s' => wpAny (model P w) (A.deeper (supEnv qual scope s.heap.objs.size f cd cc)) (leaving (supEnv qual scope s.heap.objs.size f cd cc) e) (fun _ s'' => L2.CX P w outer H s E e s'') (fun e' s'' => L2.CX P w outer H s E e' s'') s'
section
variable {P : Program} {w : World} {K : PySem.W.Frag} {mg : Str → Option Value} {base : Heap} {N : List Str} {qual : Str} {scope : Scope} {f : Addr} {cd : Value} {cc D : Addr} {A : Around} {outer : List Env} {s : Shared} {H : Hp} {E : XK} {vs : List V} {us : List Value} {h₁ : Heap} {tk : Nat}
theorem sup_one {y : Str} {c : Addr} (h : ([((("__class__" : Str)), cc)] : List (Str × Addr)).lookup y = some c) : y = ("__class__" : Str) ∧ c = cc := by
  have hm := PySem.mem_of_lookup h
  rcases List.mem_cons.mp hm with e | e
  · cases e
    exact ⟨rfl, rfl⟩
  · cases e
theorem sup_start (hk : scope.kind = .function) (hno : ∀ y ∈ scope.names, y.2 ≠ .cell) (hfr : ∀ y ∈ scope.names, y.2 = .free → y.1 = ("__class__" : Str)) (hloc : ∀ y ∈ N, scope.names.lookup y = some .local) (nd : N.Nodup) (hd : A.handled = none)
    (e0 : Env0 P w K mg base A outer s H) (hl : vs.length = N.length) (r : Vals vs us) (hc : base.IsCell cc (some (.ref D))) (hns : h₁.Ns s.heap.objs.size fun x => (N.zip us).reverse.lookup x) (kp : ∀ b o, s.heap.get? b = some o → h₁.get? b = some o) :
    Inv (supCx P w K mg base N qual scope f cd cc A outer s H E) [] (vs.map some) H { s with heap := h₁, toks := tk } := by
  obtain ⟨oc, hoc, hdc⟩ := hc
  have noA : ∀ b : Addr, b ∉ (supCx P w K mg base N qual scope f cd cc A outer s H E).ex := fun b z => absurd (show b ∈ ([] : List Addr) from z) (by simp)
  have free : ∀ {y : Str}, scope.names.lookup y = some .free → y = ("__class__" : Str) := fun {y} h => hfr _ (PySem.mem_of_lookup h) rfl
  refine ⟨⟨e0.mod, hk, rfl, rfl, Nat.le_refl _, fun y z c h1 h2 => ?_, fun y hy => ?_, fun y c z _ => ?_, fun _ => hd, Around.frames_deeper e0.frames, .inr ⟨rfl, rfl⟩, fun b z => absurd z (noA b), e0.bs, e0.bsz, fun b _ _ => noA b, fun b z => absurd z (noA b), e0.funs, e0.frf⟩,
    rfl, e0.bare, Un.kept kp, ⟨_, hns, fun i y v h1 h2 h3 => ?_⟩, fun y c h => ?_, e0.hok.fresh (Nat.le_refl _), fun y c h => ?_, fun p hp => absurd (show p ∈ ([] : List (Addr × Obj)) ++ [] from hp) (by simp), e0.hok.kept kp, ?_⟩
  · rw [(sup_one h1).1, (sup_one h2).1]
  · have hy : scope.names.lookup y = some .cell ∨ scope.names.lookup y = some .free := hy
    rcases hy with hy | hy
    · exact absurd rfl (hno _ (PySem.mem_of_lookup hy))
    · rw [free hy]
      exact ⟨cc, rfl⟩
  · cases (show false = true from z)
  · have h1 : N[i]? = some y := h1
    rw [List.getElem?_map] at h2
    cases hv : vs[i]? with
    | none => rw [hv] at h2; cases h2
    | some v' =>
      rw [hv] at h2
      cases h2
      obtain ⟨u, hu, ru⟩ := r.get hv
      have hy := List.mem_of_getElem? h1
      refine ⟨u, ru, .inl ⟨hloc y hy, ?_⟩⟩
      have hz : (N.zip us)[i]? = some (y, u) := by
        rw [List.getElem?_zip_eq_some]
        exact ⟨h1, hu⟩
      refine lookup_nd ?_ (List.mem_reverse.mpr (List.mem_of_getElem? hz))
      rw [List.map_reverse]
      refine ((List.reverse_perm _).nodup_iff).mpr ?_
      rw [List.map_fst_zip (by rw [← hl, r.length]; exact Nat.le_refl _)]
      exact nd
  · obtain ⟨rfl, rfl⟩ := sup_one h
    exact ⟨_, oc, kp _ _ (e0.bs _ _ hoc).1, hdc⟩
  · obtain ⟨rfl, rfl⟩ := sup_one h
    exact (e0.bs _ _ hoc).2
  · rw [List.length_map]
    exact hl
/-- what the written part says of an __init__ that calls super().__init__ -/
structure SupK (P : Program) (K : PySem.W.Frag) (mg : Str → Option Value) (base : Heap) (scope : Scope) (f : Addr) (fd : FuncData) (cd : Value) (cc C : Addr) (sf : Str) : Prop where
  fn : ∃ oc od osl, K.lookup f = some ⟨oc, od, .func fd, osl⟩
  par : ∃ ar, (fd.params.posonlyargs ++ fd.params.args).head? = some ar ∧ ar.arg = sf
  code : ∃ (cda : Addr) (ccl : Value) (cdd : Option Addr) (vs : Array Value) (ccs : Array (Option Value)) (file : Str) (tf : Tok), cd = .ref cda ∧ K.lookup cda = some ⟨ccl, cdd, .fields vs, ccs⟩ ∧ vs[2]? = some (.str file tf) ∧ ((P.main.file : Str) == file) = true
  cell : base.IsCell cc (some (.ref C))
  cls : (PySem.W.clsIn K C).isSome = true
  sub : PySem.W.mroIn K C (.ref C) = some true
  along : PySem.W.ks_superIn K C C "__init__" = some (some (.builtin "ValueError.__init__"))
  isV : PySem.W.subIn K (.ref C) (.type "ValueError") = some true
  stat : PySem.W.nsIn K PySem.cStatics "thirdparty.any" = some none
  msup : mg "super" = none
  top : (P.main.scope.names.lookup ("super" : Str)).isSome = false
  ks : scope.names.lookup ("super" : Str) = some .globalImplicit
  kc : scope.names.lookup ("__class__" : Str) = some .free
  kself : scope.names.lookup sf = some .local
theorem sup_eval {fd : FuncData} {sf : Str} {body : List Stmt} {p0 p1 p2 p3 p4 : Pos} {txt : Str} {j : Nat} {a C : Addr} {s0 : Shared} {H0 : Hp} {σ : L2.St} {Q : Value → Shared → Prop} (SK : SupK P K mg base scope f fd cd cc C sf) (T : OexC K C)
    (I : Inv (supCx P w K mg base N qual scope f cd cc A outer s0 H0 E) [] σ H s) (e : H a = some (exo a C none)) (hσ : σ[0]? = some (some (.ref a))) (hN : N[0]? = some sf) (hk : scope.kind = .function)
    (q : ∀ s', Inv (supCx P w K mg base N qual scope f cd cc A outer s0 H0 E) [] σ H s' → Q .none s') {pl : Sem Bool}
    (hev : eval (.Call (.Attribute (.Call (.Name "super" p0) [] [] p1) "__init__" p2) [.Constant (.str txt) j p4] [] p3) (supEnv qual scope s0.heap.objs.size f cd cc) = (do
      let ov ← attributeBase (.Call (.Name "super" p0) [] [] p1) "__init__" (supEnv qual scope s0.heap.objs.size f cd cc) (eval (.Call (.Name "super" p0) [] [] p1) (supEnv qual scope s0.heap.objs.size f cd cc))
      standAt p2.atName
      let (f', first) ← holding [ov] (getMethod ov "__init__" pl)
      callWith p3 f' first (backTo p3 (starEach [.Constant (.str txt) j p4] (supEnv qual scope s0.heap.objs.size f cd cc))) [])) :
    _root_.PySem.wpAt (model P w) (A.deeper (supEnv qual scope s0.heap.objs.size f cd cc)) (.func body (supEnv qual scope s0.heap.objs.size f cd cc)) (eval (.Call (.Attribute (.Call (.Name "super" p0) [] [] p1) "__init__" p2) [.Constant (.str txt) j p4] [] p3) (supEnv qual scope s0.heap.objs.size f cd cc)) Q (supCx P w K mg base N qual scope f cd cc A outer s0 H0 E).xe s := by
  obtain ⟨oc, od, osl, lf⟩ := SK.fn
  obtain ⟨ar, hp, har⟩ := SK.par
  obtain ⟨cda, ccl, cdd, vs0, ccs, file, tf, hcd, lc, hv2, hfile⟩ := SK.code
  obtain ⟨nm, qn, Nn, bs, bm, sn, sub, ab, col, dd, k0, k1, k2, k3, k5, hC, hbm⟩ := T.cls
  obtain ⟨t1, ho⟩ := exo_at I.hok e
  have X := I.kIn
  have X : K.In s.heap := X
  refine PySem.ks_wpAt_MethodCall (PySem.ks_wpAt_super_base (env := supEnv qual scope s0.heap.objs.size f cd cc) SK.ks SK.kc rfl rfl (X _ _ lf) rfl hp hcd (X _ _ lc) rfl hv2 hfile SK.top ?_) hev
  obtain ⟨mb, h1, h2⟩ := I.mod.blt
  refine PySem.W.ks_loadName_global hk SK.ks (Calls.loadGlobal_builtin (I.mod.glob.keeps I.bk) SK.msup (h1.keeps I.bk) ((h2 _ (by decide)).trans PyProof.Rows.Boot.«super») ⟨rfl, ?_⟩)
  obtain ⟨ocl, hocl, hdcl⟩ := SK.cell
  refine wpAny_loadName_free hk SK.kc rfl ⟨ocl, I.bk _ _ hocl, hdcl⟩ ?_
  obtain ⟨m, hn, hl⟩ := I.loc
  obtain ⟨u, ru, lk⟩ := hl 0 sf (.ref a) hN hσ (.inl SK.kself)
  obtain rfl : u = Value.ref a := ru
  have hm : m sf = some (.ref a) := by
    rcases lk with ⟨_, z⟩ | ⟨z, _⟩
    · exact z
    · rcases z with z | z <;> (have z : scope.names.lookup sf = _ := z; rw [SK.kself] at z; cases z)
  rw [har]
  refine wpAny_loadName_local hk SK.kself hn hm ?_
  obtain ⟨cdD, hcl⟩ := Option.isSome_iff_exists.mp SK.cls
  obtain ⟨oD, hD1, hD2⟩ : ∃ oD, s.heap.get? C = some oD ∧ oD.data = .cls cdD := by
    unfold PySem.W.clsIn at hcl
    split at hcl
    · rename_i c d cd' sl hh
      cases hcl
      exact ⟨_, X _ _ hh, rfl⟩
    · cases hcl
  have IA : PySem.W.InstAt s.heap a { cls := .ref C, dict := none, data := .fields #[.ref t1, .none, .none, .none, .bool false, .none] } C none := ⟨ho, rfl, rfl, trivial⟩
  obtain ⟨hh, g, d, t, os⟩ := s
  refine PySem.ks_wpAny_isType_cls hD1 hD2 ⟨rfl, ?_⟩
  refine PySem.ks_wpAny_call_super hD1 hD2 ho rfl (fun c z => by cases z) (PySem.W.looks_mroIn X SK.sub) fun h' hso kp => ?_
  have I1 := I.kept (h' := h') (t' := t) kp
  have X1 : K.In h' := I1.kIn
  have ho1 := kp _ _ ho
  have IA1 : PySem.W.InstAt h' a { cls := .ref C, dict := none, data := .fields #[.ref t1, .none, .none, .none, .bool false, .none] } C none := ⟨ho1, rfl, rfl, trivial⟩
  have al := SK.along
  unfold PySem.W.ks_superIn at al
  rw [hcl] at al
  refine PySem.W.kxs_getMethod PySem.W.kxs_ValueError hso (PySem.W.looks_opaque X1 SK.stat) (l₀ := cdD.mro) (fun A Q E s k q => wpAny_bind ((PySem.W.looks_clsIn X1 hcl) A _ E s k (wpAny_pure q))) rfl X1 al (IA1.type.andThen (PySem.W.looks_subIn X1 SK.isV)) (PySem.W.ks_ne X1 IA1 hcl) rfl ?_
  have kp2 : ∀ b o, h'.get? b = some o → (h'.push (PySem.W.kxs_mw "ValueError.__init__" a)).get? b = some o := fun b o z => Heap.get?_push_of_some _ z
  have hmw : (h'.push (PySem.W.kxs_mw "ValueError.__init__" a)).get? h'.objs.size = some (PySem.W.kxs_mw "ValueError.__init__" a) := Heap.get?_push_at rfl rfl
  have I2 := I1.kept (h' := h'.push (PySem.W.kxs_mw "ValueError.__init__" a)) (t' := t + 1) kp2
  show wpAny (model P w) _ (callWith p3 (.ref h'.objs.size) [] (backTo p3 (starEach [.Constant (.str txt) j p4] (supEnv qual scope s0.heap.objs.size f cd cc))) []) _ _ _
  refine PySem.W.kxs_callWith (i := "ValueError.__init__") (x := a) (args := (false, eval (.Constant (.str txt) j p4) (supEnv qual scope s0.heap.objs.size f cd cc)) :: []) rfl (Calls.evalArgs_plain (Calls.spliced_cons (Calls.Constant_str (Calls.spliced_nil ⟨hmw, ?_⟩))))
  have lt : a < h'.objs.size := Heap.lt_size ho1
  refine PySem.FxSup.call_mw (kp2 _ _ (X1 _ _ hC)) (kp2 _ _ ho1) hmw (by rw [sizeLine_eq]; exact Nat.le_of_ble_eq_true rfl) fun h2 t2 kp3 hx => ?_
  have J := I2.write (t' := t + 1 + 1) (x := a) (e := a) (o := exo a C none) (h' := h2) (by rw [e]; exact True.intro) (.inl rfl) kp3 ⟨_, hx⟩ (exo_ok hx)
  have eu : upd H a (exo a C none) = H := by
    funext b
    by_cases hb : b = a
    · rw [hb, upd_same, e]
    · rw [upd_ne hb]
  rw [eu] at J
  exact q _ J
/-- an __init__ that begins with super().__init__(text) -/
theorem sup_fn {name : Str} {params : Arguments} {rest : List Stmt} {dV kV doc pm ct oc : Value} {an od : Option Addr} {osl : Array (Option Value)} {sf : Str} {p0 p1 p2 p3 p4 p5 : Pos} {txt : Str} {j : Nat} {C : Addr} {k : Nat} {sp : Sp} {pl : Sem Bool}
    (lk : K.lookup f = some ⟨oc, od, .func (PySem.W.ksFn name qual params (.Expr (.Call (.Attribute (.Call (.Name "super" p0) [] [] p1) "__init__" p2) [.Constant (.str txt) j p4] [] p3) p5 :: rest) scope dV kV doc pm an cd ct cc), osl⟩) (hcd : PySem.W.codeIn K cd qual = true)
    (SK : SupK P K mg base scope f (PySem.W.ksFn name qual params (.Expr (.Call (.Attribute (.Call (.Name "super" p0) [] [] p1) "__init__" p2) [.Constant (.str txt) j p4] [] p3) p5 :: rest) scope dV kV doc pm an cd ct cc) cd cc C sf) (T : OexC K C)
    (hk : scope.kind = .function) (hco : scope.isCoroutine = false) (hgen : scope.isGenerator = false) (hno : ∀ y ∈ scope.names, y.2 ≠ .cell) (hfr : ∀ y ∈ scope.names, y.2 = .free → y.1 = ("__class__" : Str)) (hloc : ∀ y ∈ N, scope.names.lookup y = some .local) (nd : N.Nodup) (hN : N[0]? = some sf)
    (hev : ∀ L : Addr, eval (.Call (.Attribute (.Call (.Name "super" p0) [] [] p1) "__init__" p2) [.Constant (.str txt) j p4] [] p3) (supEnv qual scope L f cd cc) = (do
      let ov ← attributeBase (.Call (.Name "super" p0) [] [] p1) "__init__" (supEnv qual scope L f cd cc) (eval (.Call (.Name "super" p0) [] [] p1) (supEnv qual scope L f cd cc))
      standAt p2.atName
      let (f', first) ← holding [ov] (getMethod ov "__init__" pl)
      callWith p3 f' first (backTo p3 (starEach [.Constant (.str txt) j p4] (supEnv qual scope L f cd cc))) []))
    (hsw : ∀ L : Addr, swapsWith (.Call (.Attribute (.Call (.Name "super" p0) [] [] p1) "__init__" p2) [.Constant (.str txt) j p4] [] p3) none p5.line (supEnv qual scope L f cd cc) = pure false)
    (hin : ∀ L : Addr, interactive (supEnv qual scope L f cd cc) = false) (len : ∀ vs H Q E, sp vs H Q E → vs.length = N.length)
    (hbody : ∀ (A : Around) (outer : List Env) (s : Shared) (H : Hp) (vs : List V) (Q : VK) (E : XK), Room k (A.deeper (supEnv qual scope s.heap.objs.size f cd cc)) → sp vs H Q E →
      (∃ a r, vs = .ref a :: r ∧ H a = some (exo a C none)) ∧ ∃ t, PSs (supCx P w K mg base N qual scope f cd cc A outer s H E) rest t ∧ t { nx := fun _ H' => Q .non H', rt := Q } (vs.map some) H) :
    FnOk P w K mg base (L2.CX P w) (k + 1) f (PySem.W.ksFn name qual params (.Expr (.Call (.Attribute (.Call (.Name "super" p0) [] [] p1) "__init__" p2) [.Constant (.str txt) j p4] [] p3) p5 :: rest) scope dV kV doc pm an cd ct cc) N sp := by
  refine ⟨len, fun A outer s H args us vs Q E room e0 binds r promise => ?_⟩
  have kin : K.In s.heap := e0.mod.kin.keeps fun b o e => (e0.bs b o e).1
  obtain ⟨⟨a, vr, hvs, ha⟩, t, ht, hq⟩ := hbody A outer s H vs Q E (room.deeper _) promise
  have hl := len _ _ _ _ promise
  refine PySem.ks_codeAny_call_defAt (binds := N.zip us) room.depth (kin _ _ lk) rfl (e0.mod.nolimit.keeps fun b o e => (e0.bs b o e).1) (PySem.W.codeRec_of kin hcd) rfl binds hno (fun y hy => hloc _ (List.of_mem_zip hy).1) (fun h₁ hns kp => ?_) hco hgen hk
  have I := sup_start (P := P) (w := w) (K := K) (mg := mg) (base := base) (N := N) (qual := qual) (scope := scope) (f := f) (cd := cd) (cc := cc) (D := C) (E := E) (tk := s.toks + (N.zip us).length) hk hno hfr hloc nd room.hd e0 hl r SK.cell hns kp
  refine PySem.ks_wpAt_execs_cons (PySem.ks_wpAt_Expr_any (sup_eval SK T I ha (by rw [hvs]; rfl) hN hk (fun s' J => ?_) (hev _)) (hin _) (hsw _))
  refine wpAt_of_wpAny (wpAny_mono (ht.run [] s' (vs.map some) H _ J hq) (fun fl s2 hs => ?_) fun e s2 hs => hs)
  match fl, hs with
  | .ret u, ⟨v, _, H', J, rv, q⟩ => exact ⟨v, H', J.os, J.bare, J.base, J.hok, rv, q⟩
  | .next, ⟨_, H', J, q⟩ => exact ⟨.non, H', J.os, J.bare, J.base, J.hok, rfl, q⟩
  | .brk, ⟨_, _, _, q⟩ => exact q.elim
  | .cont, ⟨_, _, _, q⟩ => exact q.elim
/-- what such an __init__ with the fields fs promises -/
def spX (C : Addr) (fs : List Str) : Sp := fun vs H Q _ => vs.length = fs.length + 1 ∧ ∃ a ws, vs = .ref a :: ws ∧ H a = some (exo a C none) ∧
  ∀ d H3, H d = none → d ≠ a → H3 a = some (exo a C (some d)) → H3 d = some (exd d (fs.zip ws).reverse) → (∀ b, b ≠ a → b ≠ d → H3 b = H b) → Q .non H3
/-- self.f1 = x1 -/
theorem fld_one {st : Stmt} {f1 x1 sf : Str} {C : Addr} {s : Shared} {H : Hp} {vs : List V} {Q : VK} {q1 q2 q3 q4 : Pos} (hst : st = .Assign [.Attribute (.Name sf q1) f1 q2] (.Name x1 q3) q4) (T : OexC K C) (hN : N = [sf, x1]) (h1 : PySem.W.findIn K (.ref C) f1 = some none)
    (hl1 : scope.names.lookup sf = some .local) (hl2 : scope.names.lookup x1 = some .local) (hsw : swapsWith (.Name x1 q3) (some (.Attribute (.Name sf q1) f1 q2)) q4.line (supEnv qual scope s.heap.objs.size f cd cc) = pure false)
    (d1 : (sf == ("__debug__" : Str)) = false) (d2 : (sf == ("__classdict__" : Str)) = false) (d3 : (x1 == ("__debug__" : Str)) = false) (d4 : (x1 == ("__classdict__" : Str)) = false) (p : spX C [f1] vs H Q E) :
    (∃ a r, vs = .ref a :: r ∧ H a = some (exo a C none)) ∧ ∃ t, PSs (supCx P w K mg base N qual scope f cd cc A outer s H E) [st] t ∧ t { nx := fun _ H' => Q .non H', rt := Q } (vs.map some) H := by
  subst hst hN
  obtain ⟨hl, a, ws, rfl, ha, q⟩ := p
  refine ⟨⟨a, ws, rfl, ha⟩, _, pss_one (ps_ost (pe_var (i := 0) rfl (.inl hl1) d1 d2) (pe_var (i := 1) rfl (.inl hl2) d3 d4) hsw), ?_⟩
  match ws, hl with
  | [y], _ =>
    refine ⟨y, rfl, .ref a, rfl, a, C, rfl, T, h1, .inl ⟨ha, fun dx hd hne => q dx _ hd hne upd_same (by rw [upd_ne hne]; exact upd_same) fun b n1 n2 => by rw [upd_ne n1, upd_ne n2]⟩⟩
/-- self.f1 = x1; self.f2 = x2 -/
theorem fld_two {s1 s2 : Stmt} {f1 x1 f2 x2 sf : Str} {C : Addr} {s : Shared} {H : Hp} {vs : List V} {Q : VK} {q1 q2 q3 q4 r1 r2 r3 r4 : Pos} (hs1 : s1 = .Assign [.Attribute (.Name sf q1) f1 q2] (.Name x1 q3) q4) (hs2 : s2 = .Assign [.Attribute (.Name sf r1) f2 r2] (.Name x2 r3) r4) (T : OexC K C) (hN : N = [sf, x1, x2])
    (h1 : PySem.W.findIn K (.ref C) f1 = some none) (h2 : PySem.W.findIn K (.ref C) f2 = some none) (hl1 : scope.names.lookup sf = some .local) (hl2 : scope.names.lookup x1 = some .local) (hl3 : scope.names.lookup x2 = some .local)
    (hsw : swapsWith (.Name x1 q3) (some (.Attribute (.Name sf q1) f1 q2)) q4.line (supEnv qual scope s.heap.objs.size f cd cc) = pure false) (hsw2 : swapsWith (.Name x2 r3) (some (.Attribute (.Name sf r1) f2 r2)) r4.line (supEnv qual scope s.heap.objs.size f cd cc) = pure false)
    (d1 : (sf == ("__debug__" : Str)) = false) (d2 : (sf == ("__classdict__" : Str)) = false) (d3 : (x1 == ("__debug__" : Str)) = false) (d4 : (x1 == ("__classdict__" : Str)) = false) (d5 : (x2 == ("__debug__" : Str)) = false) (d6 : (x2 == ("__classdict__" : Str)) = false) (p : spX C [f1, f2] vs H Q E) :
    (∃ a r, vs = .ref a :: r ∧ H a = some (exo a C none)) ∧ ∃ t, PSs (supCx P w K mg base N qual scope f cd cc A outer s H E) [s1, s2] t ∧ t { nx := fun _ H' => Q .non H', rt := Q } (vs.map some) H := by
  subst hs1 hs2 hN
  obtain ⟨hl, a, ws, rfl, ha, q⟩ := p
  refine ⟨⟨a, ws, rfl, ha⟩, _, pss_cons (ps_ost (pe_var (i := 0) rfl (.inl hl1) d1 d2) (pe_var (i := 1) rfl (.inl hl2) d3 d4) hsw) (pss_one (ps_ost (pe_var (i := 0) rfl (.inl hl1) d1 d2) (pe_var (i := 2) rfl (.inl hl3) d5 d6) hsw2)), ?_⟩
  match ws, hl with
  | [y, z], _ =>
    refine ⟨y, rfl, .ref a, rfl, a, C, rfl, T, h1, .inl ⟨ha, fun dx hd hne => ?_⟩⟩
    refine ⟨z, rfl, .ref a, rfl, a, C, rfl, T, h2, .inr ⟨dx, [(f1, y)], upd_same, by rw [upd_ne hne]; exact upd_same, Nat.le_of_ble_eq_true rfl, ?_⟩⟩
    refine q dx _ hd hne (by rw [upd_ne hne.symm]; exact upd_same) upd_same fun b n1 n2 => by rw [upd_ne n2, upd_ne n1, upd_ne n2]
end
/-! ### an exception is tracked -/
section
variable {X : Cx} {pins : List (Addr × Obj)} {σ : L2.St} {H : Hp} {s : Shared}
theorem exv_ok {P : Program} {w : World} {H : Hp} {h : Heap} {a : Addr} {cls : Value} {d : Option Addr} {oe : Obj} {vs : Array Value} (ho : h.get? a = some oe) (hz : Zc cls d oe) (hd : oe.data = .fields vs) : ObjOk P w H h a (ExV cls d a) :=
  ⟨⟨oe, vs, ho, hz, hd⟩, ⟨oe, ho⟩, fun _ _ ⟨o, v, q, r⟩ k => ⟨o, v, k o q, r⟩⟩
theorem exv_at {P : Program} {w : World} {H : Hp} {h : Heap} {a : Addr} {cls : Value} {d : Option Addr} (hok : HOk P w H h) (e : H a = some (ExV cls d a)) : ∃ (oe : Obj) (vs : Array Value), h.get? a = some oe ∧ Zc cls d oe ∧ oe.data = .fields vs := by
  have x : ObjOk P w H h a (.ext fun h => ∃ (oe : Obj) (vs : Array Value), h.get? a = some oe ∧ Zc cls d oe ∧ oe.data = .fields vs) := hok a _ e
  exact x.1
theorem _root_.L2.Inv.track {a : Addr} {cls : Value} {d : Option Addr} {oe : Obj} {vs : Array Value} (I : Inv X pins σ H s) (hn : H a = none) (h0 : X.s_0.heap.get? a = none) (nL : a ≠ X.env.locals) (hp : ∀ p ∈ X.pn ++ pins, p.1 ≠ a) (ho : s.heap.get? a = some oe) (hz : Zc cls d oe) (hd : oe.data = .fields vs) :
    Inv X pins σ (upd H a (ExV cls d a)) s := by
  have ne0 : ∀ {b : Addr} {o : Obj}, X.s_0.heap.get? b = some o → b ≠ a := fun {b o} q z => by rw [z, h0] at q; cases q
  have neH : ∀ {b : Addr} {o : HO}, H b = some o → b ≠ a := fun {b o} q z => by rw [z, hn] at q; cases q
  refine ⟨I.ok, I.os, I.bare, ⟨I.base.keep, I.base.slot, fun b o z n hx => ?_, I.base.there, fun b xs z => ?_, fun b o v z => ?_, fun b ps z => ?_⟩, I.loc, I.cell, ?_, fun x c z => ?_, fun p q => ?_, fun b o z => ?_, I.len⟩
  · rw [upd_ne (ne0 z)]
    exact I.base.free b o z n hx
  · have q := I.base.tups b xs z
    rw [upd_ne (neH q)]
    exact q
  · have q := I.base.frzs b o v z
    rw [upd_ne (neH q)]
    exact q
  · obtain ⟨more, q⟩ := I.base.tbls b ps z
    exact ⟨more, by rw [upd_ne (neH q)]; exact q⟩
  · rw [upd_ne (Ne.symm nL)]
    exact I.free
  · have hc : c ≠ a := fun e => by
      obtain ⟨v, oc, e1, e2⟩ := I.cell x c z
      rw [e, ho] at e1
      cases e1
      rw [hd] at e2
      cases e2
    rw [upd_ne hc]
    exact I.freeC x c z
  · obtain ⟨e1, e2, e3⟩ := I.pin p q
    exact ⟨e1, by rw [upd_ne (hp p q)]; exact e2, e3⟩
  · by_cases hb : b = a
    · subst hb
      rw [upd_same] at z
      cases z
      exact exv_ok ho hz hd
    · rw [upd_ne hb] at z
      exact (I.hok b o z).stay (fun c v hc q => q) (fun c q => by rw [upd_ne (neH q)]; exact q) fun c xs q => by rw [upd_ne (neH q)]; exact q
end
/-! ### raise C(..) -/
variable [Tbl]
def raG (cn : Str) (fs : List Str) (k : F (List D)) : G := fun s => (k s).out fun ds s1 => if ds.length = fs.length then .er ⟨cn, (fs.zip ds).reverse⟩ s1 else .no
/-- an own exception that is known at a place -/
structure DnX (X : Cx) (W : WX) (cn : Str) (fs : List Str) : Prop where
  ex : ∃ (C fI : Addr) (k : Nat) (fd : FuncData) (ps : List Str), ClsAt X.K cn C ∧ OexC X.K C ∧ PySem.W.findIn X.K (.ref C) "__init__" = some (some (.ref fI)) ∧ PySem.W.typeIn X.K (.ref fI) = some (.type "function") ∧
    FnOk X.prog X.w X.K X.mg X.base (L2.CX X.prog X.w) k fI fd ps (spX C fs) ∧ Room (k + 1) X.A ∧ L2.Binds X.K fd ps [] ∧ Gl X cn ∧ X.mg cn = some (.ref C)
  tk : Takes X W
theorem RpL.zipR {K : PySem.W.Frag} {M : MS} {H : Hp} {fs : List Str} {vs : List V} {ds : List D} (h : RpL K M H vs ds) : RpL K M H ((fs.zip vs).reverse.map (·.2)) ((fs.zip ds).reverse.map (·.2)) := by
  have key : ∀ {vs : List V} {ds : List D} (fs : List Str), RpL K M H vs ds → RpL K M H ((fs.zip vs).reverse.map (·.2)) ((fs.zip ds).reverse.map (·.2)) := by
    intro vs ds fs
    induction fs generalizing vs ds with
    | nil => intro _; exact .nil
    | cons f fs ih =>
      intro h
      cases h with
      | nil => exact .nil
      | cons r t =>
        simp only [List.zip_cons_cons, List.reverse_cons, List.map_append, List.map_cons, List.map_nil]
        exact (ih t).append (.cons r .nil)
  exact key fs h
theorem zipR_fst {α β : Type} {fs : List Str} {vs : List α} {ds : List β} (h : vs.length = ds.length) : (fs.zip vs).reverse.map (·.1) = (fs.zip ds).reverse.map (·.1) := by
  rw [List.map_reverse, List.map_reverse]
  congr 1
  induction fs generalizing vs ds with
  | nil => rfl
  | cons f fs ih =>
    match vs, ds, h with
    | [], [], _ => rfl
    | v :: vs, d :: ds, h =>
      rw [List.zip_cons_cons, List.zip_cons_cons, List.map_cons, List.map_cons, ih (by simpa using h)]
section
variable {X : Cx} {B : Bs} {W : WX} {e : Expr} {es : List Expr} {k : F (List D)} {pos pos' : Pos}
theorem ss_raise {cn : Str} {p : Pos} {fs : List Str} (D0 : DnX X W cn fs) (hz : fs.length ≤ 1000) (hc : X.calm = true) (hK : X.K = B.K) (hx : Passes (L2.CX X.prog X.w) X (fun _ _ _ => False)) (ha : SA X B W (e :: es) k)
    (hdb : (cn == ("__debug__" : Str)) = false := by decide) (he : starEach (e :: es) X.env = (false, eval e X.env) :: starEach es X.env := by rfl) (hpl : (backTo pos (starEach es X.env)).any (·.1) = false := by rfl) :
    SS X B W (.Raise (some (.Call (.Name cn p) (e :: es) [] pos)) none pos') (raG cn fs k) := by
  obtain ⟨⟨C, fI, kk, fd, ps, hC, T, iC, tI, F1, hr, hb, hg, hm⟩, tk⟩ := D0
  refine PS.imp (ps_raise hc tk (pmk_oex (dvs := []) T iC tI F1 hr hb .nil hx hg hm ha hdb he hpl)) fun E σ H ⟨M, s, r, p0⟩ => ?_
  refine ⟨M, s, r, PostS.bind p0 fun ds s1 M1 H1 vs r1 q1 ev1 p1 => ?_⟩
  split at p1
  case isFalse => exact p1.elim
  case isTrue hl =>
  have hvl : vs.length = fs.length := q1.length.trans hl
  refine ⟨by rw [hvl]; exact hz, fun a na => ⟨by rw [List.length_cons, List.append_nil, hvl], a, vs ++ [], rfl, upd_same, fun d H3 hd hne e3 ed rest => ⟨rfl, d, _, e3, ed, by rw [upd_ne hne] at hd; exact hd, ?_⟩⟩⟩
  rw [upd_ne hne] at hd
  rw [List.append_nil]
  have eH : upd (del H3 a) d (.xd (fs.zip vs).reverse) = upd H1 d (.xd (fs.zip vs).reverse) := by
    funext b
    by_cases hb : b = d
    · rw [hb, upd_same, upd_same]
    · rw [upd_ne hb, upd_ne hb]
      by_cases hba : b = a
      · rw [hba, del_same, na]
      · rw [del_ne hba, rest b hba hb, upd_ne hba]
  rw [eH]
  have g : Same H1 (upd H1 d (.xd (fs.zip vs).reverse)) := same_upd hd
  exact p1 (.ref C) (some d) σ _ M1 (r1.grow g) ⟨C, hK ▸ hC, rfl, .inr ⟨d, _, rfl, upd_same, zipR_fst q1.length, (q1.move r1.mo (.same g)).zipR⟩⟩ (.same g)
end
end Fx

set_option Elab.async false
set_option linter.all false
set_option maxRecDepth 100000
/-! Fx, exceptions: try .. except C as n, the exception kept as a value behind it. -/
namespace Fx
open PySem L2 PyProof.Rows
/-- where the suite ends, the exception's object is tracked, its name is gone -/
def endK (a : Addr) (cls : Value) (d : Option Addr) (i : Nat) (D : Ends) : Ends := { nx := fun σ H => D.nx (σ.set i none) (upd H a (ExV cls d a)), rt := fun _ _ => False }
def wKeep (K : PySem.W.Frag) (c : Value) (i : Nat) (ts : Addr → Value → Option Addr → TS) (Wout : WX) (D : Ends) : WX := fun cls d σ H =>
  ∃ b, PySem.W.exmOne K cls c = some b ∧ (b = true → ∀ a, H a = none → ts a cls d (endK a cls d i D) (σ.set i (some (.ref a))) H) ∧ (b = false → Wout cls d σ H)
section
variable {X : Cx} {x n : Str} {c : Value} {i : Nat} {body suite : List Stmt} {b₀ : Stmt} {np pos pos' : Pos} {tb : WX → TS} {ts : Addr → Value → Option Addr → TS} {Wout : WX} {pins : List (Addr × Obj)} {σ : L2.St} {H : Hp} {s : Shared}
/-- an exception in the air over sI is no object of sI, but for frames -/
theorem sky_new {B : Heap} {l : List Env} {a L : Addr} {Z : Obj → Prop} {h : Heap} (sky : Sky B l a Z L h) : B.get? a = none := by
  rcases sky with ⟨_, h1, _⟩ | f | f
  · exact h1
  · exact f.2.1
  · exact f.2.1
theorem ps_try_keep (hex : X.ex = []) (hs : X.stack = X.env :: X.outer) (hf : X.env.frame = some X.env.locals) (hN : X.N.Nodup) (hi : X.N[i]? = some n) (hln : X.env.kindOf n = some .local) (hc : Names X x c) (tk : Takes X Wout)
    (hb : ∀ (W : WX) (pn : List (Addr × Obj)) (xe : Value → Shared → Prop), Takes (X.tr pn xe) W → PassesOwn (model X.prog X.w) X.A X.env xe → PSs (X.tr pn xe) body (tb W))
    (hsu : ∀ (a : Addr) (oe : Obj) (cls : Value) (d : Option Addr) (pn : List (Addr × Obj)), Zc cls d oe → (∃ vs, oe.data = .fields vs) → PSs (X.suite a ((a, oe) :: pn)) (b₀ :: suite) (ts a cls d)) :
    PS X (.Try body [.ExceptHandler (some (.Name x np)) (some n) (b₀ :: suite) pos'] [] [] pos) (fun D σ H => tb (wKeep X.K c i ts Wout D) D σ H) := by
  refine ⟨fun pins s σ H D I h => ?_⟩
  have ok := I.ok
  have hfr : X.A.frames = some (X.env :: X.outer) := by rw [ok.frames, hs]
  refine wpAny_Try_except ?_
  refine wpAny_mono ((hb (wKeep X.K c i ts Wout D) (X.pn ++ pins) (fun e s₁ => wpAny (model X.prog X.w) X.A (noteFrame e X.env) (fun _ s₂ => wpAny (model X.prog X.w) X.A (setFlight e none) (fun _ s₃ =>
    wpAny (model X.prog X.w) X.A (handleBy e X.env [.ExceptHandler (some (.Name x np)) (some n) (b₀ :: suite) pos']) (SP X pins D) X.xe s₃) X.xe s₂) X.xe s₁) (fun u s' xx => ?_) PassesOwn.looking).run [] s σ H D (I.toTry _) h) (fun f s1 hsp => ?_) (fun e s1 he => he)
  · obtain ⟨a, B, sI, pins', σ', H', cls, d, rfl, J', nb, up, sky, na, os, ag, b, hb1, hyes, hno⟩ := xx
    have J : Inv X pins σ' H' sI := J'.ofTry ok
    have newB : B.get? a = none := sky_new sky
    have sky' : Sky B (X.env :: X.outer) a (Zc cls d) X.env.locals s'.heap := by rw [← hs]; exact sky
    show wpAny (model X.prog X.w) X.A (noteFrame (.ref a) X.env) _ _ _
    refine Sky.land Zc.steady hfr hf sky' fun h3 fl3 up3 => ?_
    have J3 : Inv X pins σ' H' { s' with heap := h3 } := J.landed nb fl3.1 (up.trans up3) os ag
    obtain ⟨oe3, vs3, he3, hz3, hd3⟩ := fl3.there
    have nfr : a ∉ frs (X.env :: X.outer) := fun hm => by
      obtain ⟨_, o', e', hnf⟩ := fl3.2.2.1.mem hm
      rw [he3] at e'
      cases e'
      exact hnf _ hd3
    have nfs : a ∉ frs X.stack := by rw [hs]; exact nfr
    have nL : a ≠ X.env.locals := fun z => nfr (List.mem_filterMap.mpr ⟨X.env, List.mem_cons_self, by rw [hf, z]⟩)
    have nF : a ∉ X.fs := fun hm => by
      obtain ⟨e, he, q⟩ := List.mem_filterMap.mp hm
      exact nfr (List.mem_filterMap.mpr ⟨e, List.mem_cons_of_mem _ he, q⟩)
    have newI : sI.heap.get? a = none := by
      cases z : sI.heap.get? a with
      | none => rfl
      | some o => rw [nb a o z nfs] at newB; cases newB
    have new0 : X.s_0.heap.get? a = none := by
      cases z : X.s_0.heap.get? a with
      | none => rfl
      | some o =>
        obtain ⟨o', z'⟩ := J.base.there a o z (by rw [hex]; simp)
        rw [newI] at z'
        cases z'
    have npin : ∀ p ∈ X.pn ++ pins, p.1 ≠ a := fun p hp z => by
      have q := (J.pin p hp).1
      rw [z, newI] at q
      cases q
    have S3 := J3.suite he3 hd3 na nL nF
    refine wpAny_handleBy_cons (codeAny_handlers_test ?_) (by intro q; cases q)
    have LT : PySem.W.Looks (model X.prog X.w) h3 (typeOf (.ref a)) cls := fun A Q E s k q => wpAny_typeOf_ref (k _ _ he3) (by rw [hz3.1]; exact q)
    have LM := PySem.W.exm_one (M := model X.prog X.w) (J3.kIn) LT hb1
    have test : ∀ {Q : Value → Shared → Prop} {E : Value → Shared → Prop}, Q c { s' with heap := h3 } → wpAny (model X.prog X.w) (X.A.mark (some (.ref a))) (eval (.Name x np) X.env) Q E { s' with heap := h3 } := fun {Q E} q => by
      obtain ⟨hg, hdbg, hm | ⟨hm, hv, hnn⟩⟩ := hc
      · exact ld_glob (X := X.suite a ((a, oe3) :: (X.pn ++ pins))) S3 hg hm q hdbg
      · exact ld_blt (X := X.suite a ((a, oe3) :: (X.pn ++ pins))) S3 hg hm hv q hnn hdbg
    refine test (LM.here ?_)
    cases b with
    | true =>
      refine codeAny_handlers_suite_as ?_
      refine HandSPX.lands_againZ fl3 fun h4 fl4 up4 => ?_
      have J4 : Inv X pins σ' H' { s' with heap := h4 } := J.landed nb fl4.1 ((up.trans up3).trans up4) os ag
      obtain ⟨oe4, vs4, he4, hz4, hd4⟩ := fl4.there
      have S4 := J4.suite he4 hd4 na nL nF
      refine store_ok (X := X.suite a ((a, oe4) :: (X.pn ++ pins))) (v := .ref a) S4 hN hi (.inl hln) rfl (fun s5 S5 => ?_) (.inr hln)
      refine wpAny_mono ((hsu a oe4 cls d (X.pn ++ pins) hz4 ⟨_, hd4⟩).run [] s5 _ H' _ S5 (hyes rfl a na)) (fun f s6 hsp => ?_) (fun _ _ z => False.elim z)
      match f, hsp with
      | .next, ⟨σ6, H6, S6, q6⟩ =>
        obtain ⟨p1, p2, _⟩ := S6.pin (a, oe4) (by simp)
        have J6 := (S6.unsuite ok).track p2 new0 nL npin p1 hz4 hd4
        exact gone_ok J6 hN hi hln fun s7 J7 => ⟨_, _, J7, q6⟩
      | .brk, ⟨_, _, _, q6⟩ => exact q6.elim
      | .cont, ⟨_, _, _, q6⟩ => exact q6.elim
      | .ret u, ⟨_, _, _, _, _, q6⟩ => exact q6.elim
    | false =>
      show wpAny _ X.A (handleBy (.ref a) X.env []) _ _ _
      refine wpAny_handleBy_nil ?_
      obtain ⟨k1, k2, k3, oe, vs, T, oT, ts', he, hz, hd, h1, hr⟩ := id fl3
      unfold PySem.passOn
      refine wpAny_bind (wpAny_field he hd h1 ?_)
      rw [if_neg (show ¬ ((Value.ref T == Value.none) = true) from by simp)]
      have fin : wpAny (model X.prog X.w) X.A (setFlight (.ref a) X.env.frame) (fun _ s4 => wpAny (model X.prog X.w) X.A (throw (.ref a) : Sem Flow) (SP X pins D) X.xe s4) X.xe { s' with heap := h3 } := by
        rw [hf]
        refine HandSPX.setFlight_upZ fl3 fun h4 hh4 up4 => wpAny_throw (tk _ _ ?_)
        exact ⟨a, B, sI, pins, σ', H', cls, d, rfl, J, nb, (up.trans up3).trans up4, .inr (.inr (by rw [hs]; exact hh4)), na, os, ag, hno rfl⟩
      first
        | exact wpAny_bind (wpAny_pure (wpAny_bind fin))
        | exact wpAny_bind fin
  · match f, hsp with
    | .next, ⟨σ', H', J', q⟩ => exact wpAny_execs_nil ⟨σ', H', J'.ofTry ok, q⟩
    | .brk, ⟨σ', H', J', q⟩ => exact ⟨σ', H', J'.ofTry ok, q⟩
    | .cont, ⟨σ', H', J', q⟩ => exact ⟨σ', H', J'.ofTry ok, q⟩
    | .ret u, ⟨v, σ', H', J', r, q⟩ => exact ⟨v, σ', H', J'.ofTry ok, r, q⟩
end
end Fx

set_option Elab.async false
set_option linter.all false
set_option maxRecDepth 100000
/-! Fx: a lambda handed to a def that hears what it gives or raises; the def may hold a list of its own meanwhile. -/
namespace Fx
variable [Tbl]
open PySem L2 PyProof.Rows LamX
/-! ### at the level of frames -/
/-- the context of the hearing def -/
abbrev hCx (X : Cx) (Ng : List Str) (x : Str) (sg : Scope) (g : Addr) (cdg : Value) (s : Shared) (H : Hp) : Cx := cxOf C8.CX0 X.prog X.w X.K X.mg X.base Ng x sg g cdg X.A X.stack s H C8.E0
section
variable {X : Cx} {pins : List (Addr × Obj)} {σ : L2.St} {H : Hp} {s : Shared}
/-- a(), in the hearing def: what is raised is told of the slots at hand -/
theorem pe_ask {Ng : List Str} {qg : Str} {sg : Scope} {g f c' : Addr} {cdg pm ctv : Value} {prm : Arguments} {lb : Expr} {ls : Scope} {k : Nat} {a : Str} {pn : List (Addr × Obj)} {xe : Value → Shared → Prop} {W : WX} {tb : XK → TE} {p1 p2 : Pos}
    (I : Inv X pins σ H s) (L : LamS X.env.scope ls) (hf : s.heap.get? f = some (PySem.W.kla_obj "<lambda>" (X.env.qual ++ "<lambda>") prm lb ls (cloFrom X.env.cells ls.names []) pm c' ctv)) (hfn : H f = none) (hfr : f ∉ frs X.stack)
    (hbd : bindArgs (PySem.W.kla_fn "<lambda>" (X.env.qual ++ "<lambda>") prm lb ls (cloFrom X.env.cells ls.names []) pm (.ref c') ctv) ⟨[], []⟩ = pure []) (tk : Takes ((hCx X Ng qg sg g cdg s H).tr pn xe) W) (hr : Room (k + 1) (X.A.deeper (envOfC qg sg s.heap.objs.size g cdg)))
    (hgd : X.A.guards = some []) (hlb : ∀ (E : XK) (A : Around) (outer : List Env) (s : Shared) (H : Hp), Room k (A.deeper (lamEnv X ls s.heap.objs.size f c')) → (lamCx X A outer s H E ls f c').A.guards = some [] → PE (lamCx X A outer s H E ls f c') lb (tb E)) (hN : Ng[0]? = some a) (hv : Vis sg a) (hd : (a == ("__debug__" : Str)) = false) (hcd : (a == ("__classdict__" : Str)) = false) :
    PE ((hCx X Ng qg sg g cdg s H).tr pn xe) (.Call (.Name a p1) [] [] p2) (fun τ J Q => τ[0]? = some (some (.ref f)) ∧ J c' = some (CodeO c' (X.env.qual ++ "<lambda>")) ∧ ∃ E : XK, (∀ cls d H', E cls d H' → W cls d τ H') ∧ tb E σ J Q) := by
  refine ⟨fun ps t τ J Q IZ hyp => ?_⟩
  obtain ⟨h0, hco, E, hW, hrun⟩ := hyp
  refine wpAny_Call_Name_kw (thn ((pe_var (pos := p1) (i := 0) hN hv hd hcd).run ps t τ J (fun v J1 => v = .ref f ∧ J1 = J) IZ ⟨.ref f, h0, rfl, rfl⟩) fun u t1 ⟨v, J1, I1, rv, ev, eJ⟩ => ?_)
  subst ev eJ
  obtain rfl : u = Value.ref f := rv
  have lamAt := I1.base.keep f _ hf hfn hfr (fun z => nomatch (show f ∈ ([] : List Addr) from z))
  refine PySem.W.callWith_F0 ⟨_, _, _, _, lamAt⟩ (wpAny_call ?_)
  obtain ⟨⟨oc, vs, tt, hoc, hdc, hvc⟩, _, _⟩ := I1.hok c' _ hco
  refine codeAny_mono (R := CR (L2.CX X.prog X.w) (envOfC qg sg s.heap.objs.size g cdg :: X.stack) X.prog X.w J1 t1 Q E) ?_ fun r t2 hq => ?_
  · refine PySem.W.kla_callFunE hr.depth lamAt rfl L.co L.gen rfl ⟨c', oc, vs, tt, rfl, hoc, hdc, hvc⟩ ?_
    rw [List.nil_append, hbd]
    refine wpAny_pure (wpAny_newFunctionEnv (fun y hy => (L.own y hy).2) (fun y hy => absurd hy (by simp)) (fun h₁ hns hsb => ⟨I1.nolimit.fresh _ hsb, ?_⟩) L.kind)
    have kp : ∀ b o, t1.heap.get? b = some o → h₁.get? b = some o := fun b o e => hsb.extBut b o (Nat.ne_of_lt (Heap.lt_size e)) (Heap.get?_push_of_some _ e)
    have IL : Inv (lamCx X (X.A.deeper (envOfC qg sg s.heap.objs.size g cdg)) (envOfC qg sg s.heap.objs.size g cdg :: X.stack) t1 J1 E ls f c') [] σ J1 { t1 with heap := h₁, toks := t1.toks + ([] : List (Str × Value)).length } :=
      lam_start2 I L I1.env0 hr.hd I1.base hns kp
    refine PySem.W.kla_codeExpr (wpAny_mono ((hlb E _ _ t1 J1 (hr.deeper _) hgd).run [] _ _ J1 Q IL hrun) (fun v t3 ⟨w', J', I', rw', q⟩ => ⟨w', J', I'.os, I'.bare, I'.base, I'.hok, rw', q⟩) fun e t3 z => z)
  · match r, hq with
    | .error e, hq => exact tk e t2 (XE.of_call I1 hW hq)
    | .ok (.ret u), hq => exact I1.after hq
/-- the def that hears what it got -/
def HearsTo (k : Nat) (X : Cx) (Ng : List Str) (x : Str) (sg : Scope) (g : Addr) (cdg : Value) (bg : List Stmt) (a : Str) (q : Str) (TT : (XK → Hp → VK → Prop) → Hp → VK → Prop) : Prop :=
  ∀ (f c' : Addr) (s : Shared) (H : Hp) (Q : VK) (tl : XK → Hp → VK → Prop), Room (k + 1) (hCx X Ng x sg g cdg s H).A →
    (∀ (W : WX) (pn : List (Addr × Obj)) (xe : Value → Shared → Prop) (p1 p2 : Pos), Takes ((hCx X Ng x sg g cdg s H).tr pn xe) W →
      PE ((hCx X Ng x sg g cdg s H).tr pn xe) (.Call (.Name a p1) [] [] p2) (fun τ J Q => τ[0]? = some (some (.ref f)) ∧ J c' = some (CodeO c' q) ∧ ∃ E : XK, (∀ cls d H', E cls d H' → W cls d τ H') ∧ tl E J Q)) →
    H c' = some (CodeO c' q) → TT tl H Q → ∃ t, PSs (hCx X Ng x sg g cdg s H).nox bg t ∧ t { nx := fun _ H' => Q .non H', rt := Q } (L2.start Ng [.ref f]) H
/-- h(lambda: e) -/
theorem pe_hear {T : List (Addr × Str)} {TT : (XK → Hp → VK → Prop) → Hp → VK → Prop} {x a : Str} {g c P : Addr} {k : Nat} {pg : Arguments} {bg : List Stmt} {sg : Scope} {dV kV doc pm cdv ct oc : Value} {an od : Option Addr} {osl : Array (Option Value)} {Ng : List Str} {prm : Arguments} {lb : Expr} {ls : Scope} {t : XK → TE} {p lpos pos : Pos}
    (hg : Gl X x) (hm : X.mg x = some (.ref g)) (hk : PySem.W.keepIn X.K (.ref g) = true) (lk : X.K.lookup g = some ⟨oc, od, .func (PySem.W.fnOf x x pg bg sg dV kV doc pm an cdv ct), osl⟩) (hcg : PySem.W.codeIn X.K cdv x = true) (hb : L2.Binds X.K (PySem.W.fnOf x x pg bg sg dV kV doc pm an cdv ct) [a] []) (Sg : FnScope Ng [a] sg) (h0 : Ng[0]? = some a) (hva : Vis sg a)
    (hG : HearsTo k X Ng x sg g cdv bg a (X.env.qual ++ "<lambda>") TT) (TB : TabB X.base X.mg c P) (hcode : X.env.code = .ref c) (hmT : (P, X.env.qual ++ "<lambda>") ∈ T) (hu : ∀ p ∈ T, p.1 = P → p.2 = X.env.qual ++ "<lambda>") (hr : Room (k + 2) X.A) (L : LamS X.env.scope ls) (hdef : defaultsOf prm X.env = ([], []))
    (hbind : ∀ (q : Str) (cl : List (Str × Addr)) (pm cv ctv : Value), bindArgs (PySem.W.kla_fn "<lambda>" q prm lb ls cl pm cv ctv) ⟨[], []⟩ = pure []) (hgd : X.A.guards = some []) (hbody : ∀ (A : Around) (outer : List Env) (s : Shared) (H : Hp) (E : XK) (f c' : Addr), Room k (A.deeper (lamEnv X ls s.heap.objs.size f c')) → (lamCx X A outer s H E ls f c').A.guards = some [] → PE (lamCx X A outer s H E ls f c') lb (t E))
    (hdb : (x == ("__debug__" : Str)) = false) (hd : (a == ("__debug__" : Str)) = false) (hcd : (a == ("__classdict__" : Str)) = false) : PE X (.Call (.Name x p) [.Lambda prm lb ls lpos] [] pos) (tLam T TT t) := by
  refine ⟨fun pins s σ H Q I ⟨hT, h⟩ => wpAny_Call_Name_kw (ld_glob I hg hm (PySem.W.callWith_K (h₀ := X.base) I.ok.mod.kin hk ?_ (by rfl) (by rfl)) hdb)⟩
  refine Calls.spliced_cons (lam_make2 I TB hcode hmT hu hT hdef (L.has I.ok) fun f c' pm' ctv H1 s1 I1 eN T1 hf hfn hfr hco => Calls.spliced_nil ⟨I1.kIn, wpAny_call ?_⟩)
  refine codeAny_mono (R := CR C8.CX0 X.stack X.prog X.w H1 s1 Q C8.E0) ?_ fun r s2 hq => ?_
  · refine run_ofS (N := Ng) (ps := [a]) (us := [.ref f]) (vs := [.ref f]) lk hcg Sg hr I1.env0 (hb s1 [.ref f] I1.kIn rfl) (.cons rfl .nil) rfl fun hr2 => ?_
    obtain ⟨t2, h2, q2⟩ := hG f c' s1 H1 Q (fun E H' Q' => t E σ H' Q') hr2 (fun W pn xe p1 p2 tk => pe_ask I1 L hf hfn hfr (hbind _ _ _ _ _) tk hr2 hgd (fun E A outer s H hr3 hg3 => hbody A outer s H E f c' hr3 hg3) h0 hva hd hcd) hco (h H1 eN T1)
    exact ⟨t2, h2.nox, q2⟩
  · match r, hq with
    | .error e, hq => exact (show False from hq).elim
    | .ok (.ret u), hq => exact I1.after hq
end
end Fx

set_option Elab.async false
set_option linter.all false
set_option maxRecDepth 100000
/-! Fx: heard lambdas by plain functions. -/
namespace Fx
variable [Tbl]
open PySem L2 PyProof.Rows LamX
/-! ### an object laid aside meanwhile -/
def withP (M : MS) (P : Option Addr) : MS := fun b => M b ∨ P = some b
def woutP (M : MS) (P : Option Addr) : MS := fun b => M b ∧ P ≠ some b
def delP (H : Hp) (P : Option Addr) : Hp := fun b => if P = some b then none else H b
def lockP (L : Addr → Option HO) (P : Option Addr) : Addr → Option HO := fun b => if P = some b then some (.lst []) else L b
def BsP (B : Bs) (P : Option Addr) : Bs := ⟨B.K, B.H0, B.Mc, B.pa, lockP B.L P⟩
theorem delP_at {H : Hp} {P : Option Addr} {p : Addr} (h : P = some p) : delP H P p = none := if_pos h
theorem delP_ne {H : Hp} {P : Option Addr} {b : Addr} (h : P ≠ some b) : delP H P b = H b := if_neg h
theorem tb_delP {H : Hp} {P : Option Addr} (t : TbOk H) (h : ∀ p, P = some p → H p = some (.lst [])) : TbOk (delP H P) := fun q hq => by
  obtain ⟨ps, h1, h2, h3⟩ := t q hq
  have n : ∀ {b o}, H b = some o → o ≠ .lst [] → P ≠ some b := fun {b o} e ne z => by
    rw [h b z] at e
    exact ne (Option.some.inj e).symm
  refine ⟨ps, by rw [delP_ne (n h1 (by intro z; cases z))]; exact h1, h2, fun pos cv hc => ?_⟩
  obtain ⟨c, e1, e2⟩ := h3 pos cv hc
  exact ⟨c, e1, by rw [delP_ne (n e2 (by unfold CodeO; intro z; cases z))]; exact e2⟩
section
variable {K : PySem.W.Frag} {M : MS} {H : Hp} {P : Option Addr}
theorem keepP (hp : ∀ p, P = some p → M p ∧ H p = some (.lst [])) {a : Addr} {o : HO} (h : H a = some o) (n : ¬ M a ∨ o ≠ .lst []) : delP H P a = some o := by
  rw [delP_ne fun z => ?_]
  · exact h
  · obtain ⟨h1, h2⟩ := hp a z
    rcases n with n | n
    · exact n h1
    · rw [h2] at h
      exact n (Option.some.inj h).symm
theorem keepPR (hp : ∀ p, P = some p → M p ∧ H p = some (.lst [])) {a : Addr} {o : HO} (h : Rd H a o) (n : ¬ M a) : Rd (delP H P) a o := by
  rcases h with h | ⟨u, h⟩
  · exact .inl (keepP hp h (.inl n))
  · exact .inr ⟨u, keepP hp h (.inl n)⟩
mutual
theorem Rp.unP (hp : ∀ p, P = some p → M p ∧ H p = some (.lst [])) : ∀ {v : V} {d : D}, Rp K M H v d → Rp K (woutP M P) (delP H P) v d
  | _, _, .non => .non
  | _, _, .bl b => .bl b
  | _, _, .int i => .int i
  | _, _, .str x => .str x
  | _, _, .ty n => .ty n
  | _, _, .ref a => .ref a
  | _, _, .lst h n l => .lst (keepP hp h (.inl n)) (fun z => n z.1) (RpL.unP hp l)
  | _, _, .fz h n l => .fz (keepPR hp h n) (fun z => n z.1) (RpL.unP hp l)
  | _, _, .fzK h l => .fzK h (RpL.unP hp l)
  | _, _, .tup h l => .tup (keepP hp h (.inr (by intro z; cases z))) (RpL.unP hp l)
  | _, _, .tupK h l => .tupK h (RpL.unP hp l)
  | _, _, .ins h n c e l => .ins (keepP hp h (.inl n)) (fun z => n z.1) c e (RpL.unP hp l)
  | _, _, .exc0 h n c => .exc0 (keepP hp h (.inl n)) (fun z => n z.1) c
  | _, _, .exc h n c hd nd e l => .exc (keepP hp h (.inl n)) (fun z => n z.1) c (keepP hp hd (.inl nd)) (fun z => nd z.1) e (RpL.unP hp l)
  | _, _, .dic h n e l => .dic (keepP hp h (.inl n)) (fun z => n z.1) e (RpL.unP hp l)
theorem RpL.unP (hp : ∀ p, P = some p → M p ∧ H p = some (.lst [])) : ∀ {v : List V} {d : List D}, RpL K M H v d → RpL K (woutP M P) (delP H P) v d
  | _, _, .nil => .nil
  | _, _, .cons h t => .cons (Rp.unP hp h) (RpL.unP hp t)
end
theorem MR.unP {o : HO} {m : MO} (hp : ∀ p, P = some p → M p ∧ H p = some (.lst [])) (h : MR K M H o m) : MR K (woutP M P) (delP H P) o m := by
  cases h with
  | l h => exact .l (h.unP hp)
  | i c q h => exact .i c q (h.unP hp)
theorem XR.unP {cls : Value} {od : Option Addr} {x : XD} (hp : ∀ p, P = some p → M p ∧ H p = some (.lst [])) (h : XR K M H cls od x) : XR K (woutP M P) (delP H P) cls od x := by
  obtain ⟨C, hC, e, h⟩ := h
  refine ⟨C, hC, e, ?_⟩
  rcases h with h | ⟨d, vs, h1, h2, h3, h4⟩
  · exact .inl h
  · exact .inr ⟨d, vs, h1, keepP hp h2 (.inr (by intro z; cases z)), h3, h4.unP hp⟩
theorem MOk.unP (m : MOk M H) : MOk (woutP M P) (delP H P) := fun b z => by
  rw [delP_ne z.2]
  exact m b z.1
end
section
variable {B : Bs} {M : MS} {σ : L2.St} {H H1 : Hp} {s : List Sl} {P : Option Addr}
/-- other objects are locked -/
theorem SR.lock {L : Addr → Option HO} (r : SR B M σ H s) (h : ∀ b o, L b = some o → M b ∧ H b = some o ∧ ¬ Own σ s b) : SR ⟨B.K, B.H0, B.Mc, B.pa, L⟩ M σ H s where
  va := r.va
  ow := r.ow
  io := r.io
  pa := r.pa
  ne := r.ne
  mo := r.mo
  up := r.up
  dn := r.dn
  st := r.st
  bm := r.bm
  lk := h
  len := r.len
  tb := r.tb
theorem SR.toP (r : SR B M σ H s) (ex : ExtN H H1) (tb : TbOk H1) (hp : ∀ p, P = some p → Fr0 H p ∧ H1 p = some (.lst [])) : SR (BsP B P) (withP M P) σ H1 s := by
  have tb2 : TbOk (delP H1 P) := tb_delP tb fun p e => (hp p e).2
  have g : Gro H (delP H1 P) := ⟨fun b o e n => by
    rw [delP_ne fun z => (hp b z).1.no e n]
    exact ex b o e n, fun _ => tb2⟩
  have r1 := r.gro g
  cases P with
  | none =>
    have e1 : delP H1 none = H1 := by funext b; exact delP_ne (by intro z; cases z)
    have e2 : withP M none = M := by funext b; exact propext ⟨fun z => z.elim id (fun z => by cases z), .inl⟩
    have e3 : lockP B.L none = B.L := by funext b; exact if_neg (by intro z; cases z)
    rw [e1] at r1
    rw [e2]
    unfold BsP
    rw [e3]
    exact r1
  | some p =>
    have np : delP H1 (some p) p = none := delP_at rfl
    have r2 := r1.laid (xs := []) np
    have e1 : upd (delP H1 (some p)) p (.lst []) = H1 := by
      funext b
      by_cases hb : b = p
      · subst hb
        rw [upd_same, (hp b rfl).2]
      · rw [upd_ne hb, delP_ne (by intro z; cases z; exact hb rfl)]
    have e2 : withP M (some p) = With M p := by
      funext b
      exact propext ⟨fun z => z.imp id fun z => (Option.some.inj z).symm, fun z => z.imp id fun z => by rw [z]⟩
    rw [e1] at r2
    rw [e2]
    refine r2.lock fun b o h => ?_
    unfold lockP at h
    split at h
    · rename_i e
      cases e
      cases h
      refine ⟨.inr rfl, (hp p rfl).2, fun ⟨i, ds, h1, h2⟩ => ?_⟩
      rcases h1 with h1 | h1
      · exact r1.noOw np i ds h1 h2
      · obtain ⟨z, a, xs, _, e3, e4, _⟩ := r1.io i ds h1
        rw [z, e3] at h2
        cases h2
        rw [np] at e4
        cases e4
    · exact r2.lk b o h
theorem SR.ofP {M0 : MS} (m0 : MOk M0 H) (up0 : ∀ b, B.Mc b → M0 b) (hL : ∀ p, P = some p → B.L p = none) (fr : ∀ p, P = some p → Fr0 H p) (r : SR (BsP B P) M σ H1 s) : SR B (woutP M P) σ (delP H1 P) s ∧ ∀ p, P = some p → M p ∧ H1 p = some (.lst []) := by
  have hp : ∀ p, P = some p → M p ∧ H1 p = some (.lst []) ∧ ¬ Own σ s p := fun p e => r.lk p (.lst []) (if_pos e)
  have hp2 : ∀ p, P = some p → M p ∧ H1 p = some (.lst []) := fun p e => ⟨(hp p e).1, (hp p e).2.1⟩
  have nMc : ∀ p, P = some p → ¬ B.Mc p := fun p e z => m0.thereF (fr p e) (up0 p z)
  have f0 : ∀ p, P = some p → Fr0 B.H0 p := fun p e => (r.dn p (hp p e).1).resolve_left (nMc p e)
  refine ⟨?_, hp2⟩
  exact {
    va := fun i d h => let ⟨v, e, q⟩ := r.va i d h; ⟨v, e, q.unP hp2⟩
    ow := fun i ds h => by
      obtain ⟨a, xs, e, q, m, n, l⟩ := r.ow i ds h
      have ne : P ≠ some a := fun z => (hp a z).2.2 ⟨i, ds, .inl h, e⟩
      exact ⟨a, xs, e, by rw [delP_ne ne]; exact q, ⟨m, ne⟩, n, l.unP hp2⟩
    io := fun i ds h => by
      obtain ⟨z, a, xs, p, e, q, m, l⟩ := r.io i ds h
      have ne : P ≠ some a := fun y => (hp a y).2.2 ⟨i, ds, .inr h, z ▸ e⟩
      exact ⟨z, a, xs, p, e, by rw [delP_ne ne]; exact q, ⟨m, ne⟩, l.unP hp2⟩
    pa := r.pa
    ne := r.ne
    mo := r.mo.unP
    up := fun b z => ⟨r.up b z, fun e => nMc b e z⟩
    dn := fun b z => r.dn b z.1
    st := fun b o h n t => by
      rw [delP_ne fun e => (f0 b e).no h t]
      exact r.st b o h n t
    bm := r.bm
    lk := fun b o h => by
      have ne : P ≠ some b := fun e => by
        rw [hL b e] at h
        cases h
      obtain ⟨h1, h2, h3⟩ := r.lk b o (by show lockP B.L P b = some o; unfold lockP; rw [if_neg ne]; exact h)
      exact ⟨⟨h1, ne⟩, by rw [delP_ne ne]; exact h2, h3⟩
    len := r.len
    tb := tb_delP r.tb fun p e => (hp2 p e).2 }
theorem Ev.ofP {M' : MS} {H' : Hp} (fr : ∀ p, P = some p → Fr0 H p) (ex : ExtN H H1) (ev : Ev (withP M P) H1 M' H') : Ev M H (woutP M' P) (delP H' P) where
  old := fun b z => by
    rcases ev.old b z.1 with h | h
    · exact .inl (h.resolve_right z.2)
    · refine .inr fun o e => ?_
      by_cases t : NoTb o
      · exact (h.no (ex b o e t) t).elim
      · exact tb_of t
  st := fun b o e n t => by
    have ne : P ≠ some b := fun z => (fr b z).no e t
    rw [delP_ne ne]
    exact ev.st b o (ex b o e t) (fun z => z.elim n ne) t
end
/-! ### the caller's side -/
/-- the body runs on the caller's own slots; hd: what is made of its value, or of its exception -/
def lamF (hd : D ⊕ XD → Option D) (f : F D) : F D := fun s => match f s with
  | .ok d s' => toR (hd (.inl d)) s'
  | .er x s' => toR (hd (.inr x)) s'
  | .no => .no
/-- what is given is handed on, with nothing changed but what is new -/
def PostH (K : PySem.W.Frag) (M : MS) (H : Hp) (r : Option D) (Q : VK) : Prop := ∃ d, r = some d ∧ ∀ v H', Step (fun _ => False) H H' → TbOk H' → Rp K M H' v d → Q v H'
theorem PostH.later {K : PySem.W.Frag} {M : MS} {H H' : Hp} {r : Option D} {Q : VK} (p : PostH K M H r Q) (g : Same H H') : PostH K M H' r Q := by
  obtain ⟨d, e, k⟩ := p
  exact ⟨d, e, fun v H2 st tb q => k v H2 (fun b o z n t => st b o (g b o z) n t) tb q⟩
/-- what the hearing def makes of the lambda's reading -/
def TTh (K : PySem.W.Frag) (hd : D ⊕ XD → Option D) : (XK → Hp → VK → Prop) → Hp → VK → Prop := fun tl H Q => TbOk H ∧ ∀ (P : Option Addr) (H1 : Hp), ExtN H H1 → TbOk H1 → (∀ p, P = some p → Fr0 H p ∧ H1 p = some (.lst [])) →
  tl (fun cls od H' => ∃ M x, MOk M H' ∧ TbOk H' ∧ XR K M H' cls od x ∧ (∀ p, P = some p → M p ∧ H' p = some (.lst [])) ∧ PostH K (woutP M P) (delP H' P) (hd (.inr x)) Q) H1
    (fun v H' => ∃ M d, MOk M H' ∧ TbOk H' ∧ Rp K M H' v d ∧ (∀ p, P = some p → M p ∧ H' p = some (.lst [])) ∧ PostH K (woutP M P) (delP H' P) (hd (.inl d)) Q)
section
variable {B : Bs} {W : WX} {hd : D ⊕ XD → Option D} {f : F D} {σ : L2.St} {H : Hp} {Q : VK}
theorem gro_step {H H' : Hp} (st : Step (fun _ => False) H H') (tb : TbOk H') : Gro H H' := ⟨fun b o e n => st b o e id n, fun _ => tb⟩
theorem fr_ext {H H1 : Hp} {p : Addr} (ex : ExtN H H1) (f : Fr0 H1 p) : Fr0 H p := fun o e => by
  by_cases t : NoTb o
  · exact (f.no (ex p o e t) t).elim
  · exact tb_of t
/-- the lambda's reading, for any list that is laid aside -/
def tLm (B : Bs) (f : F D) (E : XK) : TE := fun σ H Q => ∃ P, tP (BsP B P) (fun cls d _ H' => E cls d H') (rhoD B) f σ H Q
theorem lam_read (h : tP B W (rhoD B) (lamF hd f) σ H Q) : tLam Tbl.T (TTh B.K hd) (tLm B f) σ H Q := by
  obtain ⟨M, s, r, p⟩ := h
  refine ⟨r.tb, fun H0 ex0 tb0 => ⟨tb0, fun P H1 ex01 tb1 hP => ⟨P, ?_⟩⟩⟩
  have ex : ExtN H H1 := ex0.trans ex01
  have hP0 : ∀ p, P = some p → Fr0 H p := fun p e => fr_ext ex0 (hP p e).1
  have r1 := r.toP (P := P) ex tb1 fun p e => ⟨hP0 p e, (hP p e).2⟩
  have hL : ∀ p, P = some p → B.L p = none := fun p e => r.noLk (hP0 p e)
  refine ⟨_, s, r1, ?_⟩
  unfold lamF at p
  revert p
  cases f s with
  | no => exact fun p => p
  | ok d s' =>
    intro p v H' M' r' q ev
    dsimp only at p
    obtain ⟨r2, hp2⟩ := SR.ofP r.mo r.up hL hP0 r'
    refine ⟨M', d, r'.mo, r'.tb, q, hp2, ?_⟩
    cases hh : hd (.inl d) with
    | none => rw [hh] at p; exact p.elim
    | some w =>
      rw [hh] at p
      exact ⟨w, rfl, fun v' H2 st tb q2 => p v' H2 _ (r2.gro (gro_step st tb)) q2 ((Ev.ofP hP0 ex ev).trans (.gro (gro_step st tb)))⟩
  | er x s' =>
    intro p cls od H' M' r' q ev
    dsimp only at p
    obtain ⟨r2, hp2⟩ := SR.ofP r.mo r.up hL hP0 r'
    refine ⟨M', x, r'.mo, r'.tb, q, hp2, ?_⟩
    cases hh : hd (.inr x) with
    | none => rw [hh] at p; exact p.elim
    | some w =>
      rw [hh] at p
      exact ⟨w, rfl, fun v' H2 st tb q2 => p v' H2 _ (r2.gro (gro_step st tb)) q2 ((Ev.ofP hP0 ex ev).trans (.gro (gro_step st tb)))⟩
end
/-! ### the hearing def -/
def outV : Out → Option D
  | .rt d _ => some d
  | .rn ds _ => some (.lst ds)
  | _ => none
/-- found = a(), return [a()], a() -/
inductive HK where
  | found (i : Nat) | ret | expr
/-- what a hearing def makes of what it hears: gr, what stands behind its try, on the slots r1 -/
def heardD (gr : G) (r1 : List Sl) (hk : HK) (ci : Nat) (ok : Str → Bool) : D ⊕ XD → Option D
  | .inl d => match hk with
    | .found fi => outV (gr (r1.set fi (.va d)))
    | .ret => some (.lst [d])
    | .expr => outV (gr r1)
  | .inr x => if ok x.C = true then outV (gr (r1.set ci (.va (.exc x.C x.fs)))) else none
def nextK (hk : HK) (v : V) : TS := fun D σ H => match hk with
  | .found fi => D.nx (σ.set fi (some v)) H
  | .ret => ∀ p, H p = none → D.rt (.ref p) (upd H p (.lst [v]))
  | .expr => D.nx σ H
theorem pe_weak {X : Cx} {e : Expr} {te : TE} (h : PE X e te) : PE X e (fun σ H Q => ∃ Qk : VK, te σ H Qk ∧ ∀ v H', Qk v H' → Q v H') := ⟨fun pins s σ H Q I ⟨Qk, h1, h2⟩ => thn (h.run pins s σ H Qk I h1) fun v s1 ⟨y, H1, I1, r1, q1⟩ => ⟨y, H1, I1, r1, h2 _ _ q1⟩⟩
theorem pss_len {X : Cx} {st : List Stmt} {t : TS} (h : PSs X st t) : PSs X st (fun D σ H => σ.length = X.N.length → t D σ H) := ⟨fun pins s σ H D I q => h.run pins s σ H D I (q I.len)⟩
theorem XR.rp {K : PySem.W.Frag} {M : MS} {H : Hp} {cls : Value} {od : Option Addr} {x : XD} {a : Addr} (m : MOk M H) (na : H a = none) (h : XR K M H cls od x) : Rp K M (upd H a (ExV cls od a)) (.ref a) (.exc x.C x.fs) := by
  obtain ⟨C, hC, rfl, h⟩ := h
  rcases h with ⟨rfl, e⟩ | ⟨d, vs, rfl, e1, e2, e3⟩
  · rw [e]
    exact .exc0 upd_same (m.there na) hC
  · refine .exc upd_same (m.there na) hC (by rw [upd_ne (ne_of_none e1 na)]; exact e1) (fun z => ?_) e2 (e3.move m (.same (same_upd na)))
    have q := m d z
    rw [e1] at q
    exact q
section
variable {K : PySem.W.Frag} {M : MS} {H : Hp} {σ : L2.St} {s : List Sl} {P : Option Addr} {ti : Option Nat}
/-- the slots of the hearing def, in a frame of its own: values, and perhaps an empty list of its own -/
theorem SR.frame (m : MOk M H) (tb : TbOk H) (hp : ∀ p, P = some p → M p ∧ H p = some (.lst [])) (hl : s.length = σ.length)
    (hs : ∀ (i : Nat) (x : Sl), s[i]? = some x → x = .un ∨ (∃ d v, x = .va d ∧ σ[i]? = some (some v) ∧ Rp K M H v d) ∨ (x = .ow (.l []) ∧ ti = some i ∧ ∃ p, P = some p ∧ σ[i]? = some (some (.ref p)))) : SR ⟨K, delP H P, woutP M P, none, fun _ => none⟩ M σ H s where
  va := fun i d e => by
    rcases hs i _ e with z | ⟨d', v, z, h1, h2⟩ | ⟨z, _⟩
    · cases z
    · cases z
      exact ⟨v, h1, h2⟩
    · cases z
  ow := fun i d e => by
    rcases hs i _ e with z | ⟨_, _, z, _⟩ | ⟨z, _, p, h1, h2⟩
    · cases z
    · cases z
    · cases z
      exact ⟨p, .lst [], h2, (hp p h1).2, (hp p h1).1, fr0_none (delP_at h1), .l .nil⟩
  io := fun i d e => by rcases hs i _ e with z | ⟨_, _, z, _⟩ | ⟨z, _⟩ <;> cases z
  pa := fun a e => by cases e
  ne := fun i j d1 d2 b n h1 h2 _ _ => by
    rcases hs i _ h1 with z | ⟨_, _, z, _⟩ | ⟨_, e1, _⟩
    · cases z
    · cases z
    · rcases hs j _ h2 with z | ⟨_, _, z, _⟩ | ⟨_, e2, _⟩
      · cases z
      · cases z
      · rw [e1] at e2
        exact n (Option.some.inj e2)
  mo := m
  up := fun _ z => z.1
  dn := fun b z => by
    by_cases e : P = some b
    · exact .inr (fr0_none (delP_at e))
    · exact .inl ⟨z, e⟩
  st := fun b o h _ _ => by
    have h : delP H P b = some o := h
    by_cases e : P = some b
    · rw [delP_at e] at h
      cases h
    · rw [delP_ne e] at h
      exact h
  bm := m.unP
  lk := fun b o e => by cases e
  len := hl
  tb := tb
/-- the rest of a hearing def -/
theorem rest_read {gr : G} {Q : VK} {D : Ends} {Mc : MS} {H0 : Hp} (hr : ∀ v H', D.rt v H' = Q v H') (r : SR ⟨K, H0, Mc, none, fun _ => none⟩ M σ H s) (p : PostH K Mc H0 (outV (gr s)) Q) :
    ∃ B : Bs, B.K = K ∧ tS B (fun _ _ _ _ => False) gr D σ H := by
  obtain ⟨w, hw, k⟩ := p
  refine ⟨_, rfl, M, s, r, ?_⟩
  have stp : ∀ {M' : MS} {σ' : L2.St} {H' : Hp} {s' : List Sl}, SR ⟨K, H0, Mc, none, fun _ => none⟩ M' σ' H' s' → Step (fun _ => False) H0 H' := fun r' b o e _ t => r'.st b o e (fun z => by cases z) t
  cases hg : gr s with
  | rt d s' =>
    rw [hg] at hw
    cases hw
    intro v σ' H' M' r' q ev
    rw [hr]
    exact k v H' (stp r') r'.tb (Rp.move r'.mo (.sub r'.up) q)
  | rn ds s' =>
    rw [hg] at hw
    cases hw
    intro p σ' H' M' r' ow ev
    obtain ⟨xs, h1, h2, h3, h4, _⟩ := ow
    rw [hr]
    exact k _ H' (stp r') r'.tb (.lst h1 (r'.bm.thereF h3) (h4.move r'.mo (.sub r'.up)))
  | _ => rw [hg] at hw; cases hw
end
section
variable {X : Cx} {Ng : List Str} {x a q caught err eN : Str} {sg : Scope} {g CS : Addr} {cdg : Value} {ci ei k : Nat} {pre tst : Stmt} {rest : List Stmt} {gp gr : G} {ok : Str → Bool} {p1 p2 p5 p6 p7 p8 p9 p10 : Pos} {r1 : List Sl} {ti : Option Nat} {hk : HK}
/-- what may stand in the slots ahead of the try -/
def okPre (r1 : List Sl) (ti : Option Nat) : Prop := ∀ (i : Nat) (y : Sl), r1[i]? = some y → y = .un ∨ y = .va .non ∨ (y = .ow (.l []) ∧ ti = some i)
/-- pre; try: .. a() .. / except eN as err: caught = err; rest -/
theorem hears (nd : Ng.Nodup) (hci : Ng[ci]? = some caught) (hei : Ng[ei]? = some err) (n0 : 0 < ci ∧ 0 < ei) (nce : ci ≠ ei) (nti : ti ≠ some 0 ∧ ti ≠ some ci ∧ ti ≠ some ei) (lc : sg.names.lookup caught = some .local) (le : sg.names.lookup err = some .local) (hge : sg.names.lookup eN = some .globalImplicit)
    (hme : X.mg eN = some (.ref CS)) (hde : (eN == ("__debug__" : Str)) = false) (de : (err == ("__debug__" : Str)) = false) (de2 : (err == ("__classdict__" : Str)) = false) (hq : X.A.guards = some [])
    (hpre : ∀ s H (B : Bs), B.K = X.K → Room (k + 1) (hCx X Ng x sg g cdg s H).A → SS (hCx X Ng x sg g cdg s H).nox B (fun _ _ _ _ => False) pre gp) (epre : ∀ f : Addr, gp (.va (.ref f) :: List.replicate (Ng.length - 1) .un) = .nx (r1.set 0 (.va (.ref f)))) (hl1 : r1.length = Ng.length) (h10 : r1[0]? = some .un) (hr1e : r1[ei]? = some .un) (hr1 : okPre r1 ti)
    (htst : ∀ s H pn xe te, PE ((hCx X Ng x sg g cdg s H).tr pn xe) (.Call (.Name a p1) [] [] p2) te → PSs ((hCx X Ng x sg g cdg s H).tr pn xe) [tst] (fun D σ H => te σ H fun v H' => nextK hk v D σ H')) (hfi : ∀ fi, hk = .found fi → 0 < fi ∧ fi < Ng.length ∧ ti ≠ some fi)
    (hrest : ∀ s H (B : Bs), B.K = X.K → Room (k + 1) (hCx X Ng x sg g cdg s H).A → (hCx X Ng x sg g cdg s H).A.guards = some [] → SSs (hCx X Ng x sg g cdg s H).nox B (fun _ _ _ _ => False) rest gr)
    (hok : ∀ (cn : Str) (C : Addr), ok cn = true → ClsAt X.K cn C → PySem.W.exmOne X.K (.ref C) (.ref CS) = some true) (sw2 : ∀ s H e pn, swapsWith (.Name err p5) (some (.Name caught p6)) p7.line ((hCx X Ng x sg g cdg s H).suite e pn).env = pure false) :
    HearsTo k X Ng x sg g cdg (pre :: .Try [tst] [.ExceptHandler (some (.Name eN p8)) (some err) [.Assign [.Name caught p6] (.Name err p5) p7] p9] [] [] p10 :: rest) a q (TTh X.K (heardD gr r1 hk ci ok)) := by
  intro f c' s H Q tl hroom act hc h
  obtain ⟨tbH, h⟩ := h
  have hgl : Gl (hCx X Ng x sg g cdg s H) eN := hge
  have bc := (List.getElem?_eq_some_iff.mp hci).1
  have be := (List.getElem?_eq_some_iff.mp hei).1
  let B0 : Bs := ⟨X.K, H, fun _ => False, none, fun _ => none⟩
  have hR : PSs (hCx X Ng x sg g cdg s H).nox rest (fun D σ H' => ∃ B : Bs, B.K = X.K ∧ tS B (fun _ _ _ _ => False) gr D σ H') :=
    ⟨fun pins s1 σ H1 D I ⟨B, hB, q1⟩ => (hrest s H B hB hroom hq).run pins s1 σ H1 D I q1⟩
  refine ⟨_, pss_cons (hpre s H B0 rfl hroom) (pss_cons (ps_try_keep (X := (hCx X Ng x sg g cdg s H).nox) (c := .ref CS) (i := ei) (n := err)
    (tb := fun W D σ H => σ[0]? = some (some (.ref f)) ∧ H c' = some (CodeO c' q) ∧ ∃ (E : XK) (Qk : VK), (∀ cls d H', E cls d H' → W cls d σ H') ∧ tl E H Qk ∧ ∀ v H', Qk v H' → nextK hk v D σ H')
    (ts := fun e cls d D σ H => tAsg (tVar ei) (gName ci) D σ H) (Wout := fun _ _ _ _ => False)
    rfl rfl rfl nd hei le ⟨hgl, hde, .inl hme⟩ LamX.takes0 (fun W pn xe tk _ => ?_) (fun e oe cls d pn _ _ => (pss_one (ps_set (X := (hCx X Ng x sg g cdg s H).suite e ((e, oe) :: pn)) nd hci (.inl lc) (pe_var (i := ei) hei (.inl le) de de2) (sw2 s H e _) (.inr lc))))) hR), ?_⟩
  · refine PSs.imp (htst s H pn xe _ (pe_weak (act W pn xe p1 p2 tk))) fun D σ J ⟨h1, h2, E, Qk, h3, h4, h5⟩ => ?_
    exact ⟨Qk, ⟨h1, h2, E, h3, h4⟩, h5⟩
  · have hlen : (L2.start Ng [V.ref f]).length = Ng.length := by
      unfold L2.start
      simp only [List.length_append, List.length_map, List.length_replicate, List.length_cons, List.length_nil]
      omega
    have r0 : SR B0 (fun _ => False) (L2.start Ng [V.ref f]) H (.va (.ref f) :: List.replicate (Ng.length - 1) .un) := by
      have e0 : delP H none = H := by funext b; exact delP_ne (by intro z; cases z)
      have e1 : woutP (fun _ => False) none = fun _ => False := by funext b; exact propext ⟨fun z => z.1, fun z => z.elim⟩
      have key := SR.frame (K := X.K) (M := fun _ => False) (H := H) (σ := L2.start Ng [V.ref f]) (s := .va (.ref f) :: List.replicate (Ng.length - 1) .un) (P := none) (ti := none) (fun b z => z.elim) tbH (fun p z => by cases z) (by rw [hlen, List.length_cons, List.length_replicate]; omega) fun i y hy => by
        cases i with
        | zero =>
          cases hy
          exact .inr (.inl ⟨_, .ref f, rfl, rfl, .ref f⟩)
        | succ i =>
          rw [List.getElem?_cons_succ, List.getElem?_replicate] at hy
          split at hy
          · cases hy
            exact .inl rfl
          · cases hy
      rw [e0, e1] at key
      exact key
    refine ⟨_, _, r0, ?_⟩
    rw [epre f]
    intro σ1 H1 M1 rr ev
    have l1 : σ1.length = Ng.length := by rw [← rr.len, List.length_set]; exact hl1
    have z0 : (r1.set 0 (.va (.ref f)))[0]? = some (.va (.ref f)) := List.getElem?_set_self (by omega)
    obtain ⟨v0, e0, q0⟩ := rr.va 0 _ z0
    cases q0
    have ex1 : ExtN H H1 := fun b o e n => rr.st b o e (fun z => by cases z) n
    -- the list of its own
    obtain ⟨P, hP, hPs⟩ : ∃ P : Option Addr, (∀ p, P = some p → Fr0 H p ∧ H1 p = some (.lst [])) ∧ ∀ i, r1[i]? = some (.ow (.l [])) → ti = some i → ∃ p, P = some p ∧ σ1[i]? = some (some (.ref p)) := by
      cases hti : ti with
      | none => exact ⟨none, (fun p z => by cases z), (fun i _ z => by cases z)⟩
      | some i =>
        by_cases hy : r1[i]? = some (.ow (.l []))
        · have i0 : 0 ≠ i := fun z => nti.1 (by rw [hti, z])
          obtain ⟨p, xs, e1, e2, e3, e4, e5⟩ := rr.ow i (.l []) (by rw [List.getElem?_set_ne i0]; exact hy)
          refine ⟨some p, (fun p' z => ?_), (fun j _ z => ?_)⟩
          · cases z
            refine ⟨e4, ?_⟩
            cases e5 with
            | l l => cases l; exact e2
          · cases z
            exact ⟨p, rfl, e1⟩
        · exact ⟨none, (fun p z => by cases z), (fun j hj z => by cases z; exact absurd hj hy)⟩
    have slots : ∀ {M' : MS} {H' : Hp} (i : Nat) (y : Sl) (τ : L2.St), r1[i]? = some y → (y ≠ .un → τ[i]? = σ1[i]?) → y = .un ∨ (∃ d v, y = .va d ∧ τ[i]? = some (some v) ∧ Rp X.K M' H' v d) ∨ (y = .ow (.l []) ∧ ti = some i ∧ ∃ p, P = some p ∧ τ[i]? = some (some (.ref p))) := fun i y τ hy ht => by
      rcases hr1 i y hy with z | z | ⟨z, z2⟩
      · exact .inl z
      · subst z
        by_cases hi : i = 0
        · subst hi
          rw [h10] at hy
          cases hy
        · obtain ⟨v, e1, q1⟩ := rr.va i .non (by rw [List.getElem?_set_ne (Ne.symm hi)]; exact hy)
          cases q1
          exact .inr (.inl ⟨_, .non, rfl, by rw [ht (by intro z; cases z)]; exact e1, .non⟩)
      · subst z
        obtain ⟨p, h1, h2⟩ := hPs i hy z2
        exact .inr (.inr ⟨rfl, z2, p, h1, by rw [ht (by intro z; cases z)]; exact h2⟩)
    refine ⟨e0, ex1 _ _ hc (by intro ps z; exact codeO_ne ps z), _, _, fun cls od H' hE => ?_, h P H1 ex1 rr.tb hP, fun v H' hQ => ?_⟩
    · obtain ⟨M, y, m, tb, xr, hp2, ph⟩ := hE
      have hy : ok y.C = true := by
        obtain ⟨w, hw, _⟩ := ph
        unfold heardD at hw
        dsimp only at hw
        split at hw
        · assumption
        · cases hw
      have hcl : PySem.W.exmOne X.K cls (.ref CS) = some true := by
        obtain ⟨C, hC, rfl, _⟩ := xr
        exact hok y.C C hy hC
      refine ⟨true, hcl, fun _ e ne => ?_, fun z => by cases z⟩
      refine ⟨.ref e, by rw [List.getElem?_set_self (by omega)], ?_⟩
      have g : Same H' (upd H' e (ExV cls od e)) := same_upd ne
      have hp3 : ∀ p, P = some p → M p ∧ (upd H' e (ExV cls od e)) p = some (.lst []) := fun p z => ⟨(hp2 p z).1, g _ _ (hp2 p z).2⟩
      refine rest_read (fun _ _ => rfl) (SR.frame (P := P) (ti := ti) (m.same g) (tb.same g) hp3 ?_ fun i z hz => ?_) (s := r1.set ci (.va (.exc y.C y.fs))) ?_
      · simp only [List.length_set]
        omega
      · rcases nth_set hz with ⟨rfl, e1⟩ | ⟨n1, h2⟩
        · refine .inr (.inl ⟨_, .ref e, e1, ?_, xr.rp m ne⟩)
          rw [List.getElem?_set_ne nce.symm, List.getElem?_set_self (by rw [List.length_set]; omega)]
        · by_cases hie : ei = i
          · subst hie
            rw [hr1e] at h2
            cases h2
            exact .inl rfl
          · exact slots i z _ h2 fun _ => by rw [List.getElem?_set_ne hie, List.getElem?_set_ne n1, List.getElem?_set_ne hie]
      · have ph2 := ph.later (H' := delP (upd H' e (ExV cls od e)) P) fun b o z => by
          by_cases hb : P = some b
          · rw [delP_at hb] at z
            cases z
          · rw [delP_ne hb] at z ⊢
            exact g b o z
        unfold heardD at ph2
        dsimp only at ph2
        rw [if_pos hy] at ph2
        exact ph2
    · obtain ⟨M, d, m, tb, qd, hp2, ph⟩ := hQ
      cases hk with
      | found fi =>
        obtain ⟨f0, f1, f2⟩ := hfi fi rfl
        refine rest_read (fun _ _ => rfl) (SR.frame (P := P) (ti := ti) m tb hp2 ?_ fun i z hz => ?_) (s := r1.set fi (.va d)) ph
        · simp only [List.length_set]
          omega
        · rcases nth_set hz with ⟨rfl, e1⟩ | ⟨n1, h2⟩
          · exact .inr (.inl ⟨_, v, e1, by rw [List.getElem?_set_self (by omega)], qd⟩)
          · exact slots i z _ h2 fun _ => by rw [List.getElem?_set_ne n1]
      | expr =>
        exact rest_read (fun _ _ => rfl) (SR.frame (P := P) (ti := ti) m tb hp2 (by omega) fun i z hz => slots i z _ hz fun _ => rfl) ph
      | ret =>
        intro p hp
        obtain ⟨w, hw, kk⟩ := ph
        cases hw
        have g : Same H' (upd H' p (.lst [v])) := same_upd hp
        have nP : P ≠ some p := fun z => by
          rw [(hp2 p z).2] at hp
          cases hp
        refine kk (.ref p) _ (fun b o e _ _ => ?_) (tb.same g) (.lst upd_same (fun z => m.there hp z.1) (.cons ?_ .nil))
        · by_cases hb : P = some b
          · rw [delP_at hb] at e
            cases e
          · rw [delP_ne hb] at e
            exact g b o e
        · exact (qd.move m (.same g)).move (m.same g) (.sub fun _ z => z.1)
end
end Fx

set_option Elab.async false
set_option linter.all false
set_option maxRecDepth 100000
/-! Fx: the rule for h(lambda: e), defs that hold lambdas, the end with their tables. -/
namespace Fx
variable [Tbl]
open PySem L2 PyProof.Rows LamX
/-! ### how the try stands -/
section
variable {X : Cx} {Ng : List Str} {x a : Str} {sg : Scope} {g : Addr} {cdg : Value} {p1 p2 p3 p4 : Pos}
theorem tst_found {fi : Nat} {found : Str} (nd : Ng.Nodup) (hfi : Ng[fi]? = some found) (lf : sg.names.lookup found = some .local) (sw : ∀ s H pn xe, swapsWith (.Call (.Name a p1) [] [] p2) (some (.Name found p3)) p4.line ((hCx X Ng x sg g cdg s H).tr pn xe).env = pure false := by intro _ _ _ _; rfl) :
    ∀ s H pn xe te, PE ((hCx X Ng x sg g cdg s H).tr pn xe) (.Call (.Name a p1) [] [] p2) te → PSs ((hCx X Ng x sg g cdg s H).tr pn xe) [.Assign [.Name found p3] (.Call (.Name a p1) [] [] p2) p4] (fun D σ H => te σ H fun v H' => nextK (.found fi) v D σ H') := fun s H pn xe te h =>
  pss_one (ps_set (X := (hCx X Ng x sg g cdg s H).tr pn xe) nd hfi (.inl lf) h (sw s H pn xe) (.inr lf))
theorem tst_expr (sw : ∀ s H pn xe, swapsWith (.Call (.Name a p1) [] [] p2) none p4.line ((hCx X Ng x sg g cdg s H).tr pn xe).env = pure false := by intro _ _ _ _; rfl) :
    ∀ s H pn xe te, PE ((hCx X Ng x sg g cdg s H).tr pn xe) (.Call (.Name a p1) [] [] p2) te → PSs ((hCx X Ng x sg g cdg s H).tr pn xe) [.Expr (.Call (.Name a p1) [] [] p2) p4] (fun D σ H => te σ H fun v H' => nextK .expr v D σ H') := fun s H pn xe te h =>
  pss_one (ps_expr (X := (hCx X Ng x sg g cdg s H).tr pn xe) h (sw s H pn xe))
theorem tst_ret : ∀ s H pn xe te, PE ((hCx X Ng x sg g cdg s H).tr pn xe) (.Call (.Name a p1) [] [] p2) te → PSs ((hCx X Ng x sg g cdg s H).tr pn xe) [.Return (some (.List [.Call (.Name a p1) [] [] p2] p3)) p4] (fun D σ H => te σ H fun v H' => nextK .ret v D σ H') := fun s H pn xe te h =>
  PSs.imp (pss_one (ps_ret (X := (hCx X Ng x sg g cdg s H).tr pn xe) (pe_lst (pa_cons (pe_weak h) pa_nil)))) fun D σ J q => ⟨_, q, fun v H' z => ⟨Nat.le_of_ble_eq_true rfl, z⟩⟩
end
/-! ### the caller -/
/-- a def that hears a lambda, as it is known -/
structure HKn (K : PySem.W.Frag) (mg : Str → Option Value) (x : Str) (st : Stmt) (Ng : List Str) (a : Str) (hd : D ⊕ XD → Option D) : Prop where
  F : FunAt K mg x st
  S : FnScope Ng [a] (defScope st)
  h0 : Ng[0]? = some a
  va : Vis (defScope st) a
  da : (a == ("__debug__" : Str)) = false
  ca : (a == ("__classdict__" : Str)) = false
  bi : ∀ (kV doc pm : Value) (an : Option Addr) (cdv ct : Value) (us : List Value), us.length = ([a] : List Str).length → bindArgs (PySem.W.fnOf x x (defArgs st) (defBody st) (defScope st) .none kV doc pm an cdv ct) ⟨us, []⟩ = pure ([a].zip us)
  h : ∀ (k : Nat) (X : Cx), X.K = K → X.mg = mg → X.A.guards = some [] → ∀ (g : Addr) (cdg : Value) (q : Str), HearsTo k X Ng x (defScope st) g cdg (defBody st) a q (TTh K hd)
/-- the code object of a def that holds lambdas, and its table -/
def LamAt (base : Heap) (mg : Str → Option Value) (cdv : Value) (q : Str) : Prop := ∃ c P, cdv = .ref c ∧ TabB base mg c P ∧ (P, q) ∈ Tbl.T ∧ ∀ p ∈ Tbl.T, p.1 = P → p.2 = q
section
variable {X : Cx} {B : Bs} {W : WX} {K : PySem.W.Frag} {mg : Str → Option Value}
theorem se_hear {hd : D ⊕ XD → Option D} {fB : F D} {x a : Str} {k j : Nat} {st : Stmt} {Ng : List Str} {prm : Arguments} {lb : Expr} {ls : Scope} {p lpos pos : Pos} (HK : HKn K mg x st Ng a hd) (hX : X.K = K ∧ X.mg = mg) (hK : B.K = K) (LA : LamAt X.base X.mg X.env.code (X.env.qual ++ "<lambda>"))
    (hr : Room j X.A) (hj : k + 2 ≤ j) (hgd : X.A.guards = some []) (L : lamSB X.env.scope ls = true)
    (hbody : ∀ (A : Around) (outer : List Env) (s : Shared) (H : Hp) (E : XK) (f c' : Addr), Room k (lamCx X A outer s H E ls f c').A → (lamCx X A outer s H E ls f c').A.guards = some [] → ∀ B : Bs, B.K = K → SE (lamCx X A outer s H E ls f c') B (fun cls d _ H => E cls d H) lb fB)
    (hg : Gl X x := by rfl) (hdef : defaultsOf prm X.env = ([], []) := by rfl)
    (hbind : ∀ (q : Str) (cl : List (Str × Addr)) (pm cv ctv : Value), bindArgs (PySem.W.kla_fn "<lambda>" q prm lb ls cl pm cv ctv) ⟨[], []⟩ = pure [] := by intro _ _ _ _ _; rfl) (hdb : (x == ("__debug__" : Str)) = false := by decide) :
    SE X B W (.Call (.Name x p) [.Lambda prm lb ls lpos] [] pos) (lamF hd fB) := by
  obtain ⟨rfl, rfl⟩ := hX
  obtain ⟨f, fd, F, hm⟩ := HK.F.ex
  have bi := F.binds (ps := [a]) HK.bi
  obtain ⟨oc, od, kV, doc, pm, an, cdv, ct, osl, rfl, lk, hcd⟩ := F.ex
  obtain ⟨c, P, hcode, TB, hmT, hu⟩ := LA
  refine PE.imp (pe_hear (T := Tbl.T) (TT := TTh X.K hd) (t := tLm B fB) hg hm F.kp lk hcd bi HK.S HK.h0 HK.va (HK.h k X rfl rfl hgd f cdv _) TB hcode hmT hu (hr.mono hj) (lamS_by L) hdef hbind hgd (fun A outer s H E f c' hr' hg' => ⟨fun pins s1 σ1 H1 Q I ⟨P', q'⟩ => (hbody A outer s H E f c' hr' hg' (BsP B P') hK).run pins s1 σ1 H1 Q I q'⟩) hdb HK.da HK.ca) fun σ H Q q => ?_
  rw [← hK]
  exact lam_read q
/-- what a lambda's body may raise, the hearing def takes -/
theorem lam_takes {A : Around} {outer : List Env} {s : Shared} {H : Hp} {E : XK} {scope : Scope} {f c' : Addr} : Takes (lamCx X A outer s H E scope f c') (fun cls d _ H' => E cls d H') := takes_of rfl rfl rfl rfl
end
/-! ### defs that hold lambdas -/
section
variable {P : Program} {w : World} {K : PySem.W.Frag} {mg : Str → Option Value} {base : Heap}
structure FunAtL (K : PySem.W.Frag) (mg : Str → Option Value) (base : Heap) (x : Str) (st : Stmt) (q : Str) : Prop where
  ex : ∃ (f : Addr) (fd : FuncData), Fun K x x st f fd ∧ mg x = some (.ref f) ∧ LamAt base mg fd.code q
theorem FunAtL.at {x q : Str} {st : Stmt} (F : FunAtL K mg base x st q) : FunAt K mg x st := let ⟨f, fd, a, b, _⟩ := F.ex; ⟨f, fd, a, b⟩
theorem Kn.ofL {x q : Str} {st : Stmt} {N ps : List Str} {k n : Nat} {io : Bool} {g : G} (F : FunAtL K mg base x st q) (S : FnScope N ps (defScope st)) (hn : N.length = n)
    (h : ∀ (f : Addr) (cdv : Value) (A : Around) (outer : List Env) (s : Shared) (H : Hp) (E : XK), LamAt base mg cdv q → Room k (cxD P w K mg base N x (defScope st) f cdv A outer s H E).A → (cxD P w K mg base N x (defScope st) f cdv A outer s H E).A.guards = some [] →
      ∀ B : Bs, B.K = K → SSs (cxD P w K mg base N x (defScope st) f cdv A outer s H E) B (fun cls d _ H => E cls d H) (defBody st) g) :
    Kn P w K mg base x x st (k + 1) io ps (bodyF n io g) := by
  subst hn
  obtain ⟨f, fd, F, hm, la⟩ := F.ex
  refine ⟨f, fd, F, ?_, hm⟩
  obtain ⟨oc, od, kV, doc, pm, an, cdv, ct, osl, rfl, lk, hcd⟩ := F.ex
  refine FnG.of lk hcd S (fun vs H Q E h => h.1) fun A outer s H vs Q E hr hgd ⟨hl, M, ds, m, tk, a, p⟩ => ?_
  have hp : ps.length ≤ N.length := by
    have := congrArg List.length S.pre
    rw [List.length_take] at this
    omega
  exact body_run (X := cxD P w K mg base N x (defScope st) f cdv A outer s H E) rfl m tk a (by rw [hl]; exact hp) (h f cdv A outer s H E la hr hgd) p
end
end Fx

set_option Elab.async false
set_option linter.all false
set_option maxRecDepth 100000
namespace Fx
open PySem L2 PyProof.Rows LamX
/-- the end of a law with lambdas: cs, the code objects, their tables, the lambdas' names -/
theorem walkT {l : PySem.W.OpenLaw} {n k : Nat} {q : Program} {loose : List Str} {XP : (Str → Option Value) → Heap → Prop} {YP : World → Heap → Prop} {d : DefRec} {K : Params → PySem.W.Frag} {sp : Tbl → PySem.W.Frag → Sp} {x : Str}
    (hn : l.most = some n) (hn2 : n ≤ sizeLine) (hdf : d.params.defaults = []) (hr : Room k callerA) (hY : ∀ (w : World) (h : Heap), YP w h → (K w.params).In h)
    (F : ∀ (w : World) (mg : Str → Option Value) (fa : Addr) (h : Heap), (K w.params).In h → h.Ns mainGlobals mg → mg d.name = some (.ref fa) →
      ∃ (cs : List (Addr × Addr × Str)) (fd : FuncData), (∀ p ∈ cs, (K w.params).lookup p.2.1 = none ∧ ∃ y : Str, ((recsOf q).any fun e => e.name == y) = true ∧ PySem.W.tabIn (K w.params) y = some (p.1, p.2.1)) ∧ (∀ (s : Shared) (u : Value), BindsTo s fd ⟨[u], []⟩ [(x, u)]) ∧
        ∀ base : Heap, (K w.params).In base → base.Ns mainGlobals mg → (∀ p ∈ cs, TabB base mg p.1 p.2.1) → FnG l.prog w (K w.params) mg base k fa fd [x] (sp ⟨cs.map (·.2)⟩ (K w.params)))
    (hsp : ∀ (T : Tbl) (K : PySem.W.Frag) (H : Hp) (a : Addr) (ns : List Int), ns.length ≤ n → @TbOk T H → (Rd H a (.lst (ns.map V.int)) ∨ ∀ H, SqL K H a (ns.map V.int)) → sp T K [.ref a] H (fun v _ => v = .bl true) fun _ _ _ => False) :
    PySem.W.WalkO q loose XP YP l.row.toRowW d [] (fun f vs => PySem.call f vs) := by
  refine Att.attach_call hn hdf fun w s0 s1 mg mb fa o pm cd doc a vs ns G Y ho hd hcd hmg ha hi hlen hg => ?_
  have KX := hY w _ Y
  obtain ⟨cs, fd, hcs, hbind, hF⟩ := F w mg fa _ KX G.T.g hmg
  have tabs : ∀ p ∈ cs, PySem.W.CodeHd s1.heap p.1 p.2.1 ∧ s1.heap.get? p.2.1 = some (PySem.W.tabObj #[]) := fun p hp => by
    obtain ⟨_, y, hy, ht⟩ := hcs p hp
    obtain ⟨dr, hdr⟩ : ∃ dr, (recsOf q).find? (fun e => e.name == y) = some dr := by
      rw [← Option.isSome_iff_exists, List.find?_isSome]
      exact List.any_eq_true.mp hy
    exact PySem.W.tab_of G.T KX hdr ht
  let ts : List Addr := cs.map (·.2.1)
  have tsT : ∀ b ∈ ts, s1.heap.get? b = some (PySem.W.tabObj #[]) ∧ (K w.params).lookup b = none := fun b hb => by
    obtain ⟨p, hp, e⟩ := List.mem_map.mp hb
    subst e
    exact ⟨(tabs p hp).2, (hcs p hp).1⟩
  let O : Obj := { cls := .type "list", data := .seq vs.toArray }
  have aT : a ∉ ts := fun z => by
    have e := (tsT a z).1
    rw [ha] at e
    cases e
  let H : Hp := fun b => if b = a ∧ (K w.params).lookup a = none then some (.frz O (.lst (ns.map V.int))) else if b ∈ ts then some (.tbl #[]) else none
  have only : ∀ b u, H b = some u → (b = a ∧ (K w.params).lookup a = none ∧ u = .frz O (.lst (ns.map V.int))) ∨ (b ∈ ts ∧ u = .tbl #[]) := fun b u e => by
    have e : (if b = a ∧ (K w.params).lookup a = none then some (HO.frz O (.lst (ns.map V.int))) else if b ∈ ts then some (.tbl #[]) else none) = some u := e
    split at e
    · rename_i h
      cases e
      exact .inl ⟨h.1, h.2, rfl⟩
    · split at e
      · rename_i h
        cases e
        exact .inr ⟨h, rfl⟩
      · cases e
  have atT : ∀ b ∈ ts, H b = some (.tbl #[]) := fun b hb => by
    show (if b = a ∧ (K w.params).lookup a = none then some (HO.frz O (.lst (ns.map V.int))) else if b ∈ ts then some (.tbl #[]) else none) = _
    rw [if_neg (show ¬ (b = a ∧ (K w.params).lookup a = none) from fun z => aT (z.1 ▸ hb)), if_pos hb]
  have rv := vals_ints hi
  have hlen' : (ns.map V.int).length ≤ sizeLine := by rw [List.length_map]; exact Nat.le_trans hlen hn2
  have hok : HOk l.prog w H s1.heap := fun b u e => by
    rcases only b u e with ⟨rfl, _, rfl⟩ | ⟨hb, rfl⟩
    · exact ⟨ha, hlen', vs, _, rv, ha⟩
    · exact (tsT b hb).1
  have free : ∀ {b : Addr} {ob : Obj}, s1.heap.get? b = some ob → ob ≠ O → ob ≠ PySem.W.tabObj #[] → H b = none := fun {b ob} e ne nt => by
    cases h : H b with
    | none => rfl
    | some u =>
      rcases only b u h with ⟨rfl, _⟩ | ⟨hb, _⟩
      · rw [ha] at e
        exact absurd (Option.some.inj e).symm ne
      · rw [(tsT b hb).1] at e
        exact absurd (Option.some.inj e).symm nt
  have up : ∀ {b : Addr} {ob : Obj}, s1.heap.get? b = some ob → ob ≠ O → ob ≠ PySem.W.tabObj #[] → (hidT s1.heap H).get? b = some ob := fun e h1 h2 => hidT_get e (free e h1 h2)
  have ns' : ∀ {b : Addr} {m : Str → Option Value}, s1.heap.Ns b m → (hidT s1.heap H).Ns b m := fun {b m} ⟨ob, es, ep, e, dd, r⟩ => ⟨ob, es, ep, up e (fun z => by
    rw [z] at dd
    have dd : Data.seq vs.toArray _ = Data.dict es ep := dd
    cases dd) (fun z => by
    rw [z] at dd
    cases dd), dd, r⟩
  have kb : (K w.params).In (hidT s1.heap H) := fun b ob e => hidT_get (KX b ob e) (by
    cases h : H b with
    | none => rfl
    | some u =>
      rcases only b u h with ⟨rfl, hk, _⟩ | ⟨hb, _⟩
      · rw [hk] at e
        cases e
      · rw [(tsT b hb).2] at e
        cases e)
  have hM : Mod (K w.params) mg (hidT s1.heap H) := ⟨kb, ns' G.T.g, ⟨mb, ns' G.T.b, G.T.builtins⟩, let ⟨mc, h1, h2⟩ := G.T.nolimit; ⟨mc, ns' h1, h2⟩⟩
  have nG : ∀ P ∈ ts, mainGlobals ≠ P := fun P hP z => by
    obtain ⟨ob, es, ep, e, dd, _⟩ := G.T.g
    rw [z, (tsT P hP).1] at e
    cases e
    cases dd
  have TB : ∀ p ∈ cs, TabB (hidT s1.heap H) mg p.1 p.2.1 := fun p hp => by
    have hP : p.2.1 ∈ ts := List.mem_map.mpr ⟨p, hp, rfl⟩
    refine ⟨?_, ?_, nG _ hP⟩
    · obtain ⟨oc, us, f1, f2, f3, f4, f5, f6, f7, e1, e2, e3, e4, rest⟩ := (tabs p hp).1
      exact ⟨oc, us, f1, f2, f3, f4, f5, f6, f7, up e1 (fun z => by rw [z] at e2; have e2 : Value.type "list" = Value.type "code" := e2; injection e2 with q; exact absurd q (by decide)) (fun z => by rw [z] at e2; cases e2), e2, e3, e4, rest⟩
    · obtain ⟨bm, ob, b1, b2, b3, b4, b5, b6⟩ := G.T.bmain
      refine ⟨bm, ob, b1, b2, fun z => ?_, fun z => ?_, up b3 (fun z => by rw [z] at b4; have b4 : Value.type "list" = Value.type "module" := b4; injection b4 with q; exact absurd q (by decide)) (fun z => by rw [z] at b4; cases b4), b4, b5, b6⟩
      · obtain ⟨o2, es, ep, e, dd, _⟩ := G.T.g
        rw [← z, b3] at e
        cases e
        rw [b6] at dd
        cases dd
      · rw [z, (tsT _ hP).1] at b3
        cases b3
        cases b4
  have e0 : Env0 l.prog w (K w.params) mg (hidT s1.heap H) callerA [] s1 H := ⟨rfl, hM, fun b ob e => of_hidT e, Nat.le_of_eq (hidT_size _ _), trivial, fun b hb => (by cases hb), hok, .of_eq hg⟩
  have start : Rd H a (.lst (ns.map V.int)) ∨ ∀ H, SqL (K w.params) H a (ns.map V.int) := by
    cases hk : (K w.params).lookup a with
    | none => exact .inl (.inr ⟨O, if_pos ⟨rfl, hk⟩⟩)
    | some ob =>
      have e := KX a ob hk
      rw [ha] at e
      cases e
      exact .inr fun _ => .inr ⟨_, vs.toArray, _, hk, rfl, rfl, rfl, by rw [List.size_toArray, hi.length]; exact Nat.le_trans hlen hn2, by simpa using rv⟩
  have tb : @TbOk ⟨cs.map (·.2)⟩ H := fun z hz => by
    obtain ⟨p, hp, e⟩ := List.mem_map.mp (show z ∈ cs.map (·.2) from hz)
    subst e
    exact TabS.nil (atT _ (List.mem_map.mpr ⟨p, hp, rfl⟩))
  refine codeAny_mono ((hF _ kb (ns' G.T.g) TB).run callerA [] s1 H ⟨[.ref a], []⟩ [.ref a] [.ref a] _ _ hr rfl e0 (hbind s1 (.ref a)) (.cons rfl .nil) (hsp _ (K w.params) H a ns hlen tb start)) fun r s' h => ?_
  match r, h with
  | .error e, h =>
    obtain ⟨_, _, _, _, _, _, _, _, _, _, _, _, z⟩ := h
    exact z.elim
  | .ok (.ret u), ⟨v, H', os, bare, un, hok', r', e⟩ =>
    have e : v = .bl true := e
    subst e
    obtain rfl : u = Value.bool true := r'
    have grown : ∀ b ∈ ts, ∃ more : Array Value, s'.heap.get? b = some { cls := .none, data := .fields more } := fun b hb => by
      obtain ⟨more, z⟩ := un.tbls b #[] (atT b hb)
      exact ⟨_, hok' b _ z⟩
    have kept : ∀ b ob, b ∉ ts → s1.heap.get? b = some ob → s'.heap.get? b = some ob := fun b ob nb e => by
      cases h : H b with
      | none => exact un.keep b ob e h (by intro z; cases z) (by intro z; cases z)
      | some u =>
        rcases only b u h with ⟨rfl, _, rfl⟩ | ⟨hb, _⟩
        · obtain ⟨e2, _⟩ := hok' _ _ (un.frzs _ O _ h)
          rw [ha] at e
          cases e
          exact e2
        · exact absurd hb nb
    refine ⟨rfl, ⟨fun b ob e => ?_, fun b ob e => ?_⟩, os, bare⟩
    · by_cases hb : b ∈ ts
      · obtain ⟨more, hm⟩ := grown b hb
        obtain ⟨p, hp, ep⟩ := List.mem_map.mp hb
        subst ep
        obtain ⟨C1, C2⟩ := tabs p hp
        rw [C2] at e
        cases e
        exact .inr (.inl ⟨(C1.tab C2).isCodeTable, rfl, #[], more, rfl, by rw [Array.empty_append]; exact hm⟩)
      · exact .inl (kept b ob hb e)
    · by_cases hb : b ∈ ts
      · obtain ⟨more, hm⟩ := grown b hb
        exact ⟨_, hm⟩
      · exact ⟨ob, kept b ob hb e⟩
end Fx

set_option Elab.async false
set_option linter.all false
set_option maxRecDepth 100000
/-! Fx: the law's own exceptions, as the text holds them. -/
namespace Fx
variable [Tbl]
open PySem L2 PyProof.Rows
/-- an own exception, known -/
structure XKn (P : Program) (w : World) (K : PySem.W.Frag) (mg : Str → Option Value) (base : Heap) (cn : Str) (fs : List Str) : Prop where
  ex : ∃ (C fI : Addr) (fd : FuncData) (ps : List Str), ClsAt K cn C ∧ OexC K C ∧ PySem.W.findIn K (.ref C) "__init__" = some (some (.ref fI)) ∧ PySem.W.typeIn K (.ref fI) = some (.type "function") ∧ FnOk P w K mg base (L2.CX P w) 1 fI fd ps (spX C fs) ∧ L2.Binds K fd ps [] ∧ mg cn = some (.ref C)
/-- what the text holds of an own exception whose __init__ begins with super().__init__(..) -/
structure XAt (P : Program) (K : PySem.W.Frag) (mg : Str → Option Value) (cn qual : Str) (st : Stmt) (fs : List Str) : Prop where
  ex : ∃ (C fI cda cc : Addr) (fd : FuncData), ClsAt K cn C ∧ mg cn = some (.ref C) ∧ OexC K C ∧ PySem.W.findIn K (.ref C) "__init__" = some (some (.ref fI)) ∧ PySem.W.typeIn K (.ref fI) = some (.type "function") ∧
    (∃ oc od osl kV doc pm an ct, fd = PySem.W.ksFn "__init__" qual (defArgs st) (defBody st) (defScope st) .none kV doc pm an (.ref cda) ct cc ∧ K.lookup fI = some ⟨oc, od, .func fd, osl⟩) ∧ PySem.W.codeIn K (.ref cda) qual = true ∧
    (∃ oc od osl, K.lookup cc = some ⟨oc, od, .cell (some (.ref C)), osl⟩) ∧ (∃ ccl cdd vs ccs file tf, K.lookup cda = some ⟨ccl, cdd, .fields vs, ccs⟩ ∧ vs[2]? = some (.str file tf) ∧ ((P.main.file : Str) == file) = true) ∧
    (PySem.W.clsIn K C).isSome = true ∧ PySem.W.mroIn K C (.ref C) = some true ∧ PySem.W.ks_superIn K C C "__init__" = some (some (.builtin "ValueError.__init__")) ∧ PySem.W.subIn K (.ref C) (.type "ValueError") = some true ∧ PySem.W.nsIn K PySem.cStatics "thirdparty.any" = some none ∧ ∀ f ∈ fs, PySem.W.findIn K (.ref C) f = some none
  msup : mg "super" = none
  top : (P.main.scope.names.lookup ("super" : Str)).isSome = false
/-- the scope of such an __init__ -/
structure XSc (st : Stmt) (N : List Str) : Prop where
  kind : (defScope st).kind = .function
  co : (defScope st).isCoroutine = false
  gen : (defScope st).isGenerator = false
  cell : ∀ y ∈ (defScope st).names, y.2 ≠ .cell
  free : ∀ y ∈ (defScope st).names, y.2 = .free → y.1 = ("__class__" : Str)
  loc : ∀ y ∈ N, (defScope st).names.lookup y = some .local
  nd : N.Nodup
  sup : (defScope st).names.lookup ("super" : Str) = some .globalImplicit
  cls : (defScope st).names.lookup ("__class__" : Str) = some .free
def xscB (st : Stmt) (N : List Str) : Bool :=
  decide ((defScope st).kind = .function) && !(defScope st).isCoroutine && !(defScope st).isGenerator && ((defScope st).names.all fun y => !decide (y.2 = .cell) && (!decide (y.2 = .free) || decide (y.1 = ("__class__" : Str)))) && (N.all fun y => decide ((defScope st).names.lookup y = some .local)) &&
    decide N.Nodup && decide ((defScope st).names.lookup ("super" : Str) = some .globalImplicit) && decide ((defScope st).names.lookup ("__class__" : Str) = some .free)
theorem xsc_by {st : Stmt} {N : List Str} (h : xscB st N = true) : XSc st N := by
  unfold xscB at h
  simp only [Bool.and_eq_true, Bool.or_eq_true, Bool.not_eq_true', decide_eq_true_eq, decide_eq_false_iff_not, List.all_eq_true] at h
  obtain ⟨⟨⟨⟨⟨⟨⟨h1, h2⟩, h3⟩, h4⟩, h5⟩, h6⟩, h7⟩, h8⟩ := h
  exact ⟨h1, h2, h3, fun y hy => (h4 y hy).1, fun y hy e => (h4 y hy).2.resolve_left fun z => z e, h5, h6, h7, h8⟩
section
variable {P : Program} {w : World} {K : PySem.W.Frag} {mg : Str → Option Value} {base : Heap} {cn qual : Str} {st : Stmt} {txt sf x1 x2 f1 f2 : Str} {p0 p1 p2 p3 p4 p5 q1 q2 q3 q4 r1 r2 r3 r4 : Pos} {j : Nat} {pl : Sem Bool}
theorem XAt.fn {fs N : List Str} {rest : List Stmt} (A0 : XAt P K mg cn qual st fs) (kb : K.In base) (S : XSc st N) (hN : N[0]? = some sf) (hb : defBody st = .Expr (.Call (.Attribute (.Call (.Name "super" p0) [] [] p1) "__init__" p2) [.Constant (.str txt) j p4] [] p3) p5 :: rest) (hpar : ∃ ar, ((defArgs st).posonlyargs ++ (defArgs st).args).head? = some ar ∧ ar.arg = sf)
    (hbind : ∀ (kV doc pm : Value) (an : Option Addr) (cdv ct : Value) (cc : Addr) (us : List Value), us.length = N.length → bindArgs (PySem.W.ksFn "__init__" qual (defArgs st) (defBody st) (defScope st) .none kV doc pm an cdv ct cc) ⟨us, []⟩ = pure (N.zip us))
    (hev : ∀ (L f cc : Addr) (cd : Value), eval (.Call (.Attribute (.Call (.Name "super" p0) [] [] p1) "__init__" p2) [.Constant (.str txt) j p4] [] p3) (supEnv qual (defScope st) L f cd cc) = (do
      let ov ← attributeBase (.Call (.Name "super" p0) [] [] p1) "__init__" (supEnv qual (defScope st) L f cd cc) (eval (.Call (.Name "super" p0) [] [] p1) (supEnv qual (defScope st) L f cd cc))
      standAt p2.atName
      let (f', first) ← holding [ov] (getMethod ov "__init__" pl)
      callWith p3 f' first (backTo p3 (starEach [.Constant (.str txt) j p4] (supEnv qual (defScope st) L f cd cc))) []))
    (hsw : ∀ (L f cc : Addr) (cd : Value), swapsWith (.Call (.Attribute (.Call (.Name "super" p0) [] [] p1) "__init__" p2) [.Constant (.str txt) j p4] [] p3) none p5.line (supEnv qual (defScope st) L f cd cc) = pure false)
    (hlen : N.length = fs.length + 1)
    (hst : ∀ (C f cc : Addr) (cd : Value) (A : Around) (outer : List Env) (s : Shared) (H : Hp) (vs : List V) (Q : VK) (E : XK), OexC K C → (∀ f ∈ fs, PySem.W.findIn K (.ref C) f = some none) → spX C fs vs H Q E →
      (∃ a r, vs = .ref a :: r ∧ H a = some (exo a C none)) ∧ ∃ t, PSs (supCx P w K mg base N qual (defScope st) f cd cc A outer s H E) rest t ∧ t { nx := fun _ H' => Q .non H', rt := Q } (vs.map some) H) :
    XKn P w K mg base cn fs := by
  obtain ⟨C, fI, cda, cc, fd, hC, hm, T, iC, tI, ⟨oc, od, osl, kV, doc, pm, an, ct, rfl, lk⟩, hcd, ⟨oc2, od2, osl2, lc⟩, ⟨ccl, cdd, vs, ccs, file, tf, l2, hv, hfile⟩, hcls, hmro, hal, hisV, hstat, hfs⟩ := A0.ex
  refine ⟨C, fI, _, N, hC, T, iC, tI, ?_, .all (hbind kV doc pm an (.ref cda) ct cc), hm⟩
  have SK : SupK P K mg base (defScope st) fI (PySem.W.ksFn "__init__" qual (defArgs st) (defBody st) (defScope st) .none kV doc pm an (.ref cda) ct cc) (.ref cda) cc C sf :=
    ⟨⟨oc, od, osl, lk⟩, hpar, ⟨cda, ccl, cdd, vs, ccs, file, tf, rfl, l2, hv, hfile⟩, ⟨_, kb _ _ lc, rfl⟩, hcls, hmro, hal, hisV, hstat, A0.msup, A0.top, S.sup, S.cls, S.loc _ (List.mem_of_getElem? hN)⟩
  rw [hb] at lk SK ⊢
  exact sup_fn (k := 0) lk hcd SK T S.kind S.co S.gen S.cell S.free S.loc S.nd hN (fun L => hev L fI cc (.ref cda)) (fun L => hsw L fI cc (.ref cda)) (fun L => by show ((defScope st).kind == .module && _) = false; rw [S.kind]; rfl) (fun vs H Q E h => h.1.trans hlen.symm) fun A outer s H vs Q E _ p => hst C fI cc (.ref cda) A outer s H vs Q E T hfs p
/-- self.f1 = x1 -/
theorem XAt.one (A0 : XAt P K mg cn qual st [f1]) (kb : K.In base) (S : XSc st [sf, x1]) (hb : defBody st = [.Expr (.Call (.Attribute (.Call (.Name "super" p0) [] [] p1) "__init__" p2) [.Constant (.str txt) j p4] [] p3) p5, .Assign [.Attribute (.Name sf q1) f1 q2] (.Name x1 q3) q4])
    (hpar : ∃ ar, ((defArgs st).posonlyargs ++ (defArgs st).args).head? = some ar ∧ ar.arg = sf)
    (hbind : ∀ (kV doc pm : Value) (an : Option Addr) (cdv ct : Value) (cc : Addr) (us : List Value), us.length = 2 → bindArgs (PySem.W.ksFn "__init__" qual (defArgs st) (defBody st) (defScope st) .none kV doc pm an cdv ct cc) ⟨us, []⟩ = pure ([sf, x1].zip us))
    (hev : ∀ (L f cc : Addr) (cd : Value), eval (.Call (.Attribute (.Call (.Name "super" p0) [] [] p1) "__init__" p2) [.Constant (.str txt) j p4] [] p3) (supEnv qual (defScope st) L f cd cc) = (do
      let ov ← attributeBase (.Call (.Name "super" p0) [] [] p1) "__init__" (supEnv qual (defScope st) L f cd cc) (eval (.Call (.Name "super" p0) [] [] p1) (supEnv qual (defScope st) L f cd cc))
      standAt p2.atName
      let (f', first) ← holding [ov] (getMethod ov "__init__" pl)
      callWith p3 f' first (backTo p3 (starEach [.Constant (.str txt) j p4] (supEnv qual (defScope st) L f cd cc))) []) := by intro _ _ _ _; rfl)
    (hsw : ∀ (L f cc : Addr) (cd : Value), swapsWith (.Call (.Attribute (.Call (.Name "super" p0) [] [] p1) "__init__" p2) [.Constant (.str txt) j p4] [] p3) none p5.line (supEnv qual (defScope st) L f cd cc) = pure false := by intro _ _ _ _; rfl)
    (hsw1 : ∀ (L f cc : Addr) (cd : Value), swapsWith (.Name x1 q3) (some (.Attribute (.Name sf q1) f1 q2)) q4.line (supEnv qual (defScope st) L f cd cc) = pure false := by intro _ _ _ _; rfl)
    (d1 : (sf == ("__debug__" : Str)) = false := by decide) (d2 : (sf == ("__classdict__" : Str)) = false := by decide) (d3 : (x1 == ("__debug__" : Str)) = false := by decide) (d4 : (x1 == ("__classdict__" : Str)) = false := by decide) :
    XKn P w K mg base cn [f1] :=
  A0.fn kb S rfl hb hpar hbind hev hsw rfl fun C f cc cd A outer s H vs Q E T hfs p =>
    fld_one rfl T rfl (hfs f1 List.mem_cons_self) (S.loc _ List.mem_cons_self) (S.loc _ (List.mem_cons_of_mem _ List.mem_cons_self)) (hsw1 _ _ _ _) d1 d2 d3 d4 p
/-- self.f1 = x1; self.f2 = x2 -/
theorem XAt.two (A0 : XAt P K mg cn qual st [f1, f2]) (kb : K.In base) (S : XSc st [sf, x1, x2])
    (hb : defBody st = [.Expr (.Call (.Attribute (.Call (.Name "super" p0) [] [] p1) "__init__" p2) [.Constant (.str txt) j p4] [] p3) p5, .Assign [.Attribute (.Name sf q1) f1 q2] (.Name x1 q3) q4, .Assign [.Attribute (.Name sf r1) f2 r2] (.Name x2 r3) r4])
    (hpar : ∃ ar, ((defArgs st).posonlyargs ++ (defArgs st).args).head? = some ar ∧ ar.arg = sf)
    (hbind : ∀ (kV doc pm : Value) (an : Option Addr) (cdv ct : Value) (cc : Addr) (us : List Value), us.length = 3 → bindArgs (PySem.W.ksFn "__init__" qual (defArgs st) (defBody st) (defScope st) .none kV doc pm an cdv ct cc) ⟨us, []⟩ = pure ([sf, x1, x2].zip us))
    (hev : ∀ (L f cc : Addr) (cd : Value), eval (.Call (.Attribute (.Call (.Name "super" p0) [] [] p1) "__init__" p2) [.Constant (.str txt) j p4] [] p3) (supEnv qual (defScope st) L f cd cc) = (do
      let ov ← attributeBase (.Call (.Name "super" p0) [] [] p1) "__init__" (supEnv qual (defScope st) L f cd cc) (eval (.Call (.Name "super" p0) [] [] p1) (supEnv qual (defScope st) L f cd cc))
      standAt p2.atName
      let (f', first) ← holding [ov] (getMethod ov "__init__" pl)
      callWith p3 f' first (backTo p3 (starEach [.Constant (.str txt) j p4] (supEnv qual (defScope st) L f cd cc))) []) := by intro _ _ _ _; rfl)
    (hsw : ∀ (L f cc : Addr) (cd : Value), swapsWith (.Call (.Attribute (.Call (.Name "super" p0) [] [] p1) "__init__" p2) [.Constant (.str txt) j p4] [] p3) none p5.line (supEnv qual (defScope st) L f cd cc) = pure false := by intro _ _ _ _; rfl)
    (hsw1 : ∀ (L f cc : Addr) (cd : Value), swapsWith (.Name x1 q3) (some (.Attribute (.Name sf q1) f1 q2)) q4.line (supEnv qual (defScope st) L f cd cc) = pure false := by intro _ _ _ _; rfl)
    (hsw2 : ∀ (L f cc : Addr) (cd : Value), swapsWith (.Name x2 r3) (some (.Attribute (.Name sf r1) f2 r2)) r4.line (supEnv qual (defScope st) L f cd cc) = pure false := by intro _ _ _ _; rfl)
    (d1 : (sf == ("__debug__" : Str)) = false := by decide) (d2 : (sf == ("__classdict__" : Str)) = false := by decide) (d3 : (x1 == ("__debug__" : Str)) = false := by decide) (d4 : (x1 == ("__classdict__" : Str)) = false := by decide) (d5 : (x2 == ("__debug__" : Str)) = false := by decide)
    (d6 : (x2 == ("__classdict__" : Str)) = false := by decide) : XKn P w K mg base cn [f1, f2] :=
  A0.fn kb S rfl hb hpar hbind hev hsw rfl fun C f cc cd A outer s H vs Q E T hfs p =>
    fld_two rfl rfl T rfl (hfs f1 List.mem_cons_self) (hfs f2 (List.mem_cons_of_mem _ List.mem_cons_self)) (S.loc _ List.mem_cons_self) (S.loc _ (List.mem_cons_of_mem _ List.mem_cons_self)) (S.loc _ (List.mem_cons_of_mem _ (List.mem_cons_of_mem _ List.mem_cons_self))) (hsw1 _ _ _ _) (hsw2 _ _ _ _) d1 d2 d3 d4 d5 d6 p
end
theorem XKn.dn {P : Program} {w : World} {K : PySem.W.Frag} {mg : Str → Option Value} {base : Heap} {cn : Str} {fs : List Str} {X : Cx} {W : WX} {j : Nat} (kn : XKn P w K mg base cn fs) (hX : X.prog = P ∧ X.w = w ∧ X.K = K ∧ X.mg = mg ∧ X.base = base) (hr : Room j X.A) (hk : 2 ≤ j) (hg : Gl X cn) (tk : Takes X W) : DnX X W cn fs := by
  obtain ⟨rfl, rfl, rfl, rfl, rfl⟩ := hX
  obtain ⟨C, fI, fd, ps, hC, T, iC, tI, F, hb, hm⟩ := kn.ex
  exact ⟨⟨C, fI, 1, fd, ps, hC, T, iC, tI, F, hr.mono hk, hb, hg, hm⟩, tk⟩
end Fx

set_option Elab.async false
set_option linter.all false
set_option maxRecDepth 100000
/-! Fx: exceptions as values: their fields. -/
namespace Fx
variable [Tbl]
open PySem L2 PyProof.Rows
/-- e.n, e an exception kept as a value -/
theorem pe_xv {X : Cx} {e : Expr} {te : TE} {pos : Pos} {n : Str} (he : PE X e te) (hb : attributeBase e n X.env (eval e X.env) = eval e X.env := by rfl) :
    PE X (.Attribute e n pos) (fun σ H Q => te σ H fun x H1 => ∃ (a C d : Addr) (fs : List (Str × V)) (v : V), x = .ref a ∧ H1 a = some (ExV (.ref C) (some d) a) ∧ XfC X.K C ∧ PySem.W.findIn X.K (.ref C) n = some none ∧ H1 d = some (.xd fs) ∧ fs.lookup n = some v ∧ Q v H1) := by
  refine ⟨fun pins s σ H Q I h => ?_⟩
  refine attr_of hb (thn (he.run pins s σ H _ I h) fun u s1 hh => ?_)
  obtain ⟨x, H1, I1, rx, a, C, d, fs, v, ex, ea, T, hno, ed, l, q⟩ := hh
  subst ex
  obtain rfl : u = Value.ref a := rx
  obtain ⟨oe, vs, ha, hz, hd⟩ := exv_at I1.hok ea
  have hx : ObjOk X.prog X.w H1 s1.heap d (.xd fs) := I1.hok d _ ed
  obtain ⟨mA, hns, hr⟩ := hx
  obtain ⟨od, ho, hl⟩ := lookIn_ns hns
  obtain ⟨u, hu, ru⟩ := RelO.some_of (v := v) (o := mA n) (by rw [← l]; exact hr n)
  have J : PySem.W.InstAt s1.heap a oe C (some od) := ⟨ha, hz.1, by unfold PySem.W.notCls; rw [hd] <;> rfl, by rw [hz.2]; exact ho⟩
  exact HandSPX.exc_get I1.kIn J T.ga T.gg T.exC (PySem.W.findObj_own T.hdC hno rfl (by rw [hl, hu])) (handed_of ru) ⟨v, H1, I1.tok _, ru, q⟩
/-- e.n of an exception of one of the classes ns -/
def xfldF (ns : List Str) (n : Str) (f : F D) : F D := fun s => (f s).bind fun d s1 => match d with
  | .exc c fs => if c ∈ ns then toR (fs.lookup n) s1 else .no
  | _ => .no
theorem se_xfld {X : Cx} {B : Bs} {W : WX} {e : Expr} {f : F D} {pos : Pos} {n : Str} {ns : List Str} (hK : X.K = B.K) (hns : ∀ c ∈ ns, ∀ C, ClsAt B.K c C → XfC B.K C ∧ PySem.W.findIn B.K (.ref C) n = some none) (he : SE X B W e f) (hb : attributeBase e n X.env (eval e X.env) = eval e X.env := by rfl) :
    SE X B W (.Attribute e n pos) (xfldF ns n f) := by
  refine PE.imp (pe_xv he hb) fun σ H Q ⟨M, s, r, p⟩ => ⟨M, s, r, Post.bind p fun x s1 M1 H1 v r1 q1 ev1 p1 => ?_⟩
  split at p1
  case h_2 => exact p1.elim
  case h_1 c fs =>
  split at p1
  case isFalse => exact p1.elim
  case isTrue hc =>
  cases hl : fs.lookup n with
  | none => rw [hl] at p1; exact p1.elim
  | some d =>
    rw [hl] at p1
    cases q1 with
    | exc0 h1 h2 h3 => cases hl
    | exc h1 h2 h3 h4 h5 h6 h7 =>
      obtain ⟨w, e1, q2⟩ := lookup_rp h6 h7 hl
      obtain ⟨T, hno⟩ := hns c hc _ h3
      exact ⟨_, _, _, _, w, rfl, h1, hK ▸ T, hK ▸ hno, h4, e1, p1.out r1 q2⟩
end Fx

set_option Elab.async false
set_option linter.all false
set_option maxRecDepth 100000
/-! Fx: isinstance of exceptions kept as values. -/
namespace Fx
variable [Tbl]
open PySem L2 PyProof.Rows
/-- isinstance(e, c), e an exception kept as a value -/
def rIsV (K : PySem.W.Frag) : List V → Hp → VK → Prop := fun xs H Q => ∃ (a D : Addr) (d : Option Addr) (c : V) (cv : Value) (b : Bool), xs = [.ref a, c] ∧ H a = some (ExV (.ref D) d a) ∧ (d = none ∨ ∃ dd fs, d = some dd ∧ H dd = some (.xd fs)) ∧ (PySem.W.clsIn K D).isSome = true ∧ ExcC K D ∧
  (∀ u, RelV c u → u = cv) ∧ PySem.W.kitOne K (.ref D) cv = some b ∧ Q (.bl b) H
theorem call_isV {X : Cx} : CallR X (.builtin "isinstance") (rIsV X.K) := by
  intro pins s σ H xs us Q I r h
  obtain ⟨a, D, d, c, cv, b, rfl, ea, hd, hcl, C, hcv, e, q⟩ := h
  cases r with
  | cons rx rr =>
    cases rr with
    | cons rt rr =>
      cases rr
      cases rx
      have ec := hcv _ rt
      subst ec
      obtain ⟨oe, vs, ho, hz, hv⟩ := exv_at I.hok ea
      have J : ∃ od, PySem.W.InstAt s.heap a oe D od := by
        have nc : PySem.W.notCls oe = true := by unfold PySem.W.notCls; rw [hv] <;> rfl
        rcases hd with rfl | ⟨dd, fs, rfl, ed⟩
        · exact ⟨none, ho, hz.1, nc, by rw [hz.2]; trivial⟩
        · have hx : ObjOk X.prog X.w H s.heap dd (.xd fs) := I.hok dd _ ed
          obtain ⟨mA, hns, hr⟩ := hx
          obtain ⟨od, hod, hl⟩ := lookIn_ns hns
          exact ⟨some od, ho, hz.1, nc, by rw [hz.2]; exact hod⟩
      obtain ⟨od, J⟩ := J
      exact PySem.W.kia_one (PySem.W.kitx_exc hcl C.hg C.hk C.hs C.ha C.hn C.ht C.hm) I.kIn J e (fun z => nomatch z) fun tk => ⟨.bl b, H, I.kept (t' := tk) fun _ _ z => z, rfl, q⟩
structure IsiX (K : PySem.W.Frag) (mg : Str → Option Value) (cn : Str) (yes no : List Str) : Prop where
  ex : ∃ C, mg cn = some (.ref C) ∧ (∀ n ∈ yes, ∀ D, ClsAt K n D → (PySem.W.clsIn K D).isSome = true ∧ ExcC K D ∧ PySem.W.kitOne K (.ref D) (.ref C) = some true) ∧ (∀ n ∈ no, ∀ D, ClsAt K n D → (PySem.W.clsIn K D).isSome = true ∧ ExcC K D ∧ PySem.W.kitOne K (.ref D) (.ref C) = some false) ∧
    ∀ t ∈ baseTys, PySem.W.kitOne K (.type t) (.ref C) = some false
/-- isinstance(x, C), C an own class of exceptions -/
def isiXD (yes no : List Str) : D → Option D
  | .exc n _ => if n ∈ yes then some (.bl true) else if n ∈ no then some (.bl false) else none
  | x => match tyD x with
    | some _ => some (.bl false)
    | none => none
section
variable {X : Cx} {B : Bs} {W : WX} {e : Expr} {f : F D} {pos : Pos}
theorem exc_of {K : PySem.W.Frag} {M : MS} {H : Hp} {v : V} {n : Str} {fs : List (Str × D)} (q : Rp K M H v (.exc n fs)) : ∃ a D d, v = .ref a ∧ H a = some (ExV (.ref D) d a) ∧ ClsAt K n D ∧ (d = none ∨ ∃ dd fs, d = some dd ∧ H dd = some (.xd fs)) := by
  cases q with
  | exc0 h1 h2 h3 => exact ⟨_, _, _, rfl, h1, h3, .inl rfl⟩
  | exc h1 h2 h3 h4 h5 h6 h7 => exact ⟨_, _, _, rfl, h1, h3, .inr ⟨_, _, rfl, h4⟩⟩
theorem se_isiX {yes no : List Str} {cn : Str} {p p2 : Pos} (hK : X.K = B.K) (h : IsiX B.K X.mg cn yes no) (hm : X.mg "isinstance" = none) (he : SE X B W e f) (hg : Gl X "isinstance" := by rfl) (hgc : Gl X cn := by rfl) (hdc : (cn == ("__debug__" : Str)) = false := by decide)
    (hst : starEach [e, .Name cn p2] X.env = (false, eval e X.env) :: starEach [.Name cn p2] X.env := by rfl) (hs2 : starEach [.Name cn p2] X.env = (false, eval (.Name cn p2) X.env) :: starEach [] X.env := by rfl) (hpl : (backTo pos (starEach [.Name cn p2] X.env)).any (·.1) = false := by rfl) :
    SE X B W (.Call (.Name "isinstance" p) [e, .Name cn p2] [] pos) (op1F (isiXD yes no) f) := by
  obtain ⟨C, hC, h1, h2, h3⟩ := h.ex
  refine PE.imp (pe_callB (CallR.or call_isi call_isV) hg hm bt_isinstance (pa_cons he (pa_cons (pe_glob (v := .ref C) hgc hC rfl hdc) pa_nil hs2) hst) (by decide) (by decide) hst hpl) fun σ H Q ⟨M, s, r, p⟩ => ⟨M, s, r, Post.bind p fun d s1 M1 H1 v r1 q1 ev1 p1 => ?_⟩
  unfold toR at p1
  split at p1
  · rename_i d' hd
    have hexc : ∀ n fs, d = .exc n fs → isiXD yes no (.exc n fs) = some d' → rIsV X.K [v, .ref C] H1 Q := fun n fs ed hd => by
      subst ed
      obtain ⟨a, D', dd, rfl, ea, hD, hdd⟩ := exc_of q1
      unfold isiXD at hd
      dsimp only at hd
      split at hd
      · rename_i hn
        obtain ⟨g1, g2, g3⟩ := h1 n hn D' hD
        cases hd
        exact ⟨a, D', dd, .ref C, .ref C, true, rfl, ea, hdd, hK ▸ g1, hK ▸ g2, fun u hu => hu, hK ▸ g3, p1.out r1 (.bl true)⟩
      · split at hd
        · rename_i hn
          obtain ⟨g1, g2, g3⟩ := h2 n hn D' hD
          cases hd
          exact ⟨a, D', dd, .ref C, .ref C, false, rfl, ea, hdd, hK ▸ g1, hK ▸ g2, fun u hu => hu, hK ▸ g3, p1.out r1 (.bl false)⟩
        · cases hd
    have hty : ∀ t, tyD d = some t → d' = .bl false → rIsi X.K [v, .ref C] H1 Q := fun t ht e => by
      subst e
      exact ⟨v, .ref C, .type t, .ref C, false, rfl, .own C, hK ▸ q1.tyx ht, hK ▸ h3 t (tyD_base ht), p1.out r1 (.bl false)⟩
    cases d with
    | exc n fs => exact .inr (hexc n fs rfl hd)
    | _ =>
      first
        | (cases hd; done)
        | (cases hd; exact .inl (hty _ rfl rfl))
  · exact p1.elim
end
end Fx

set_option Elab.async false
set_option linter.all false
set_option maxRecDepth 100000
/-! Fx: defaults of parameters; instances made by a call with keywords. -/
namespace Fx
variable [Tbl]
open PySem L2 PyProof.Rows
section
variable {P : Program} {w : World} {K : PySem.W.Frag} {mg : Str → Option Value} {base : Heap} {x qual : Str} {st : Stmt} {f : Addr} {fd : FuncData} {N ps ks : List Str} {k n : Nat} {io : Bool} {g : G} {dvs : List V} {dds : List D}
/-- a def with defaults: what they are -/
structure FnD (K : PySem.W.Frag) (x qual : Str) (st : Stmt) (f : Addr) (fd : FuncData) (dvs : List V) (dds : List D) : Prop where
  F : FunD K x qual (defArgs st) (defBody st) (defScope st) dvs [] f fd
  ne : dvs ≠ []
  rp : ∀ M H, RpL K M H dvs dds
theorem fnd_mk (F : FnD K x qual st f fd dvs dds) (S : FnScope N ps (defScope st))
    (h : ∀ (cdv : Value) (A : Around) (outer : List Env) (s : Shared) (H : Hp) (E : XK), Room k (cxD P w K mg base N qual (defScope st) f cdv A outer s H E).A → (cxD P w K mg base N qual (defScope st) f cdv A outer s H E).A.guards = some [] →
      ∀ B : Bs, B.K = K → SSs (cxD P w K mg base N qual (defScope st) f cdv A outer s H E) B (fun cls d _ H => E cls d H) (defBody st) g) :
    FnG P w K mg base (k + 1) f fd ps (spF K io ps.length (bodyF N.length io g)) := by
  obtain ⟨oc, od, dV, kV, doc, pm, an, cdv, ct, osl, rfl, lk, hcd, _, _⟩ := F.F.ex
  refine FnG.of lk hcd S (fun vs H Q E h => h.1) fun A outer s H vs Q E hr hgd ⟨hl, M, ds, m, tk, a, p⟩ => ?_
  have hp : ps.length ≤ N.length := by
    have := congrArg List.length S.pre
    rw [List.length_take] at this
    omega
  exact body_run (X := cxD P w K mg base N qual (defScope st) f cdv A outer s H E) rfl m tk a (by rw [hl]; exact hp) (h cdv A outer s H E hr hgd) p
theorem FnD.its (F : FnD K x qual st f fd dvs dds) : ∃ its, Vals dvs its := by
  obtain ⟨oc, od, dV, kV, doc, pm, an, cdv, ct, osl, rfl, lk, hcd, hD, _⟩ := F.F.ex
  rcases hD with ⟨e, _⟩ | ⟨_, T, o, its, m, rfl, lT, oT, rT⟩
  · exact absurd e F.ne
  · exact ⟨its, rT⟩
/-- how a call binds: pre, then n1 values, the keywords ks -/
theorem FnD.kb {n1 : Nat} {idx : List Nat} {pre : Nat} (F : FnD K x qual st f fd dvs dds)
    (h : ∀ (T : Addr) (kV doc pm : Value) (an : Option Addr) (cdv ct : Value) (us its ws : List Value), us.length = pre + n1 → its.length = dds.length → ws.length = ks.length →
      ∃ c, bindArgs (PySem.W.fnOf x qual (defArgs st) (defBody st) (defScope st) (.ref T) kV doc pm an cdv ct) ⟨us, ks.zip ws⟩ = seqItems? (.ref T) >>= c ∧ c (some its.toArray) = pure (ps.zip (us.take pre ++ pickG n1 ks.length its idx (us.drop pre) ws))) :
    ∃ its, Vals dvs its ∧ ∀ (s : Shared) (us ws : List Value), K.In s.heap → us.length = pre + n1 → ws.length = ks.length → BindsTo s fd ⟨us, ks.zip ws⟩ (ps.zip (us.take pre ++ pickG n1 ks.length its idx (us.drop pre) ws)) := by
  obtain ⟨oc, od, dV, kV, doc, pm, an, cdv, ct, osl, rfl, lk, hcd, hD, _⟩ := F.F.ex
  rcases hD with ⟨e, _⟩ | ⟨_, T, o, its, m, rfl, lT, oT, rT⟩
  · exact absurd e F.ne
  · refine ⟨its, rT, fun s us ws X l1 l2 => ?_⟩
    have l3 : its.length = dds.length := by rw [← rT.length]; exact (F.rp (fun _ => False) (fun _ => none)).length
    obtain ⟨c, e1, e2⟩ := h T kV doc pm an cdv ct us its ws l1 l3 l2
    refine BindsTo.of_looks fun M => ?_
    rw [e1]
    exact looks_items X lT oT (.of_pure e2)
structure FunAtD (K : PySem.W.Frag) (mg : Str → Option Value) (x : Str) (st : Stmt) (dds : List D) : Prop where
  ex : ∃ (f : Addr) (fd : FuncData) (dvs : List V), FnD K x x st f fd dvs dds ∧ mg x = some (.ref f)
structure KnD (P : Program) (w : World) (K : PySem.W.Frag) (mg : Str → Option Value) (base : Heap) (x : Str) (st : Stmt) (k : Nat) (ps : List Str) (dds : List D) (Fn : List D → FR) : Prop where
  ex : ∃ (f : Addr) (fd : FuncData) (dvs : List V), FnD K x x st f fd dvs dds ∧ FnG P w K mg base k f fd ps (spF K false ps.length Fn) ∧ mg x = some (.ref f)
theorem KnD.of (F : FunAtD K mg x st dds) (S : FnScope N ps (defScope st)) (hn : N.length = n)
    (h : ∀ (f : Addr) (cdv : Value) (A : Around) (outer : List Env) (s : Shared) (H : Hp) (E : XK), Room k (cxD P w K mg base N x (defScope st) f cdv A outer s H E).A → (cxD P w K mg base N x (defScope st) f cdv A outer s H E).A.guards = some [] →
      ∀ B : Bs, B.K = K → SSs (cxD P w K mg base N x (defScope st) f cdv A outer s H E) B (fun cls d _ H => E cls d H) (defBody st) g) :
    KnD P w K mg base x st (k + 1) ps dds (bodyF n false g) := by
  subst hn
  obtain ⟨f, fd, dvs, F, hm⟩ := F.ex
  exact ⟨f, fd, dvs, F, fnd_mk F S (h f), hm⟩
theorem KnD.dn {X : Cx} {B : Bs} {W : WX} {j n1 : Nat} {Fn : List D → FR} {idx : List Nat} (kn : KnD P w K mg base x st k ps dds Fn)
    (hX : X.prog = P ∧ X.w = w ∧ X.K = K ∧ X.mg = mg ∧ X.base = base) (hK : B.K = K) (hr : Room j X.A) (hk : k ≤ j) (hq : X.A.guards = some []) (hg : Gl X x) (tk : Takes X W) (hp : 0 < ps.length)
    (h : ∀ (T : Addr) (kV doc pm : Value) (an : Option Addr) (cdv ct : Value) (us its ws : List Value), us.length = 0 + n1 → its.length = dds.length → ws.length = ks.length →
      ∃ c, bindArgs (PySem.W.fnOf x x (defArgs st) (defBody st) (defScope st) (.ref T) kV doc pm an cdv ct) ⟨us, ks.zip ws⟩ = seqItems? (.ref T) >>= c ∧ c (some its.toArray) = pure (ps.zip (us.take 0 ++ pickG n1 ks.length its idx (us.drop 0) ws))) :
    Dn X B W x false ps.length Fn ks (pickG n1 ks.length dds idx) := by
  obtain ⟨rfl, rfl, rfl, rfl, rfl⟩ := hX
  obtain ⟨f, fd, dvs, F, G, hm⟩ := kn.ex
  obtain ⟨its, rT, hb⟩ := F.kb (pre := 0) h
  refine ⟨⟨k, f, fd, ps, pickG n1 ks.length its idx, pickG n1 ks.length dvs idx, hK ▸ G, hr.mono hk, hq, hg, hm, F.F.kp, ⟨fun s us ws X0 hl => ?_, fun h1 h2 => pick_vals rT h1 h2⟩, pick_gd fun M H => by rw [hK]; exact F.rp M H⟩, tk⟩
  have hc : us.length = n1 ∧ ws.length = ks.length := by
    by_cases hc : us.length = n1 ∧ ws.length = ks.length
    · exact hc
    · unfold pickG at hl
      rw [if_neg hc] at hl
      have hl : 0 = ps.length := hl
      omega
  have q := hb s us ws X0 (by rw [hc.1, Nat.zero_add]) hc.2
  exact q
/-! ### instances -/
structure InitAtD (K : PySem.W.Frag) (mg : Str → Option Value) (cn qual : Str) (st : Stmt) (dds : List D) : Prop where
  ex : ∃ (C f : Addr) (fd : FuncData) (dvs : List V), ClsAt K cn C ∧ Mk K C f ∧ FnD K "__init__" qual st f fd dvs dds ∧ mg cn = some (.ref C)
structure CKnD (P : Program) (w : World) (K : PySem.W.Frag) (mg : Str → Option Value) (base : Heap) (cn qual : Str) (st : Stmt) (k : Nat) (ps : List Str) (dds : List D) (Fi : List D → FR) : Prop where
  ex : ∃ (C f : Addr) (fd : FuncData) (dvs : List V), ClsAt K cn C ∧ Mk K C f ∧ FnD K "__init__" qual st f fd dvs dds ∧ FnG P w K mg base k f fd ps (spF K true ps.length Fi) ∧ mg cn = some (.ref C)
theorem CKnD.of {cn : Str} (F : InitAtD K mg cn qual st dds) (S : FnScope N ps (defScope st)) (hn : N.length = n)
    (h : ∀ (f : Addr) (cdv : Value) (A : Around) (outer : List Env) (s : Shared) (H : Hp) (E : XK), Room k (cxD P w K mg base N qual (defScope st) f cdv A outer s H E).A → (cxD P w K mg base N qual (defScope st) f cdv A outer s H E).A.guards = some [] →
      ∀ B : Bs, B.K = K → SSs (cxD P w K mg base N qual (defScope st) f cdv A outer s H E) B (fun cls d _ H => E cls d H) (defBody st) g) :
    CKnD P w K mg base cn qual st (k + 1) ps dds (bodyF n true g) := by
  subst hn
  obtain ⟨C, f, fd, dvs, h1, h2, h3, h4⟩ := F.ex
  exact ⟨C, f, fd, dvs, h1, h2, h3, fnd_mk h3 S (h f), h4⟩
end
/-- a class that is known at a place: how its making binds n1 values and the keywords ks -/
structure DnK (X : Cx) (B : Bs) (W : WX) (cn : Str) (n n1 : Nat) (ks : List Str) (dds : List D) (idx : List Nat) (Fi : List D → FR) : Prop where
  ex : ∃ (k : Nat) (C f : Addr) (fd : FuncData) (ps : List Str) (its : List Value) (dvs : List V), ClsAt B.K cn C ∧ Mk X.K C f ∧ FnG X.prog X.w X.K X.mg X.base k f fd ps (spF B.K true n Fi) ∧ Room (k + 1) X.A ∧ X.A.guards = some [] ∧ Gl X cn ∧ X.mg cn = some (.ref C) ∧
    Vals dvs its ∧ (∀ M H, RpL B.K M H dvs dds) ∧ ∀ (s : Shared) (u0 : Value) (us ws : List Value), X.K.In s.heap → us.length = n1 → ws.length = ks.length → BindsTo s fd ⟨u0 :: us, ks.zip ws⟩ (ps.zip (u0 :: pickG n1 ks.length its idx us ws))
  tk : Takes X W
theorem CKnD.dn {P : Program} {w : World} {K : PySem.W.Frag} {mg : Str → Option Value} {base : Heap} {cn qual : Str} {st : Stmt} {k j n1 : Nat} {ps ks : List Str} {dds : List D} {Fi : List D → FR} {idx : List Nat} {X : Cx} {B : Bs} {W : WX} (kn : CKnD P w K mg base cn qual st k ps dds Fi)
    (hX : X.prog = P ∧ X.w = w ∧ X.K = K ∧ X.mg = mg ∧ X.base = base) (hK : B.K = K) (hr : Room j X.A) (hk : k + 1 ≤ j) (hq : X.A.guards = some []) (hg : Gl X cn) (tk : Takes X W)
    (h : ∀ (T : Addr) (kV doc pm : Value) (an : Option Addr) (cdv ct : Value) (us its ws : List Value), us.length = 1 + n1 → its.length = dds.length → ws.length = ks.length →
      ∃ c, bindArgs (PySem.W.fnOf "__init__" qual (defArgs st) (defBody st) (defScope st) (.ref T) kV doc pm an cdv ct) ⟨us, ks.zip ws⟩ = seqItems? (.ref T) >>= c ∧ c (some its.toArray) = pure (ps.zip (us.take 1 ++ pickG n1 ks.length its idx (us.drop 1) ws))) :
    DnK X B W cn ps.length n1 ks dds idx Fi := by
  obtain ⟨rfl, rfl, rfl, rfl, rfl⟩ := hX
  obtain ⟨C, f, fd, dvs, hC, Mc, F, G, hm⟩ := kn.ex
  obtain ⟨its, rT, hb⟩ := F.kb (pre := 1) h
  exact ⟨⟨k, C, f, fd, ps, its, dvs, hK ▸ hC, Mc, hK ▸ G, hr.mono hk, hq, hg, hm, rT, fun M H => by rw [hK]; exact F.rp M H, fun s u0 us ws X0 l1 l2 => hb s (u0 :: us) ws X0 (by rw [List.length_cons, l1, Nat.add_comm]) l2⟩, tk⟩
theorem CKn.dnK {P : Program} {w : World} {K : PySem.W.Frag} {mg : Str → Option Value} {base : Heap} {cn qual : Str} {st : Stmt} {k j n1 : Nat} {ps ks : List Str} {Fi : List D → FR} {idx : List Nat} {X : Cx} {B : Bs} {W : WX} (kn : CKn P w K mg base cn qual st k ps Fi)
    (hX : X.prog = P ∧ X.w = w ∧ X.K = K ∧ X.mg = mg ∧ X.base = base) (hK : B.K = K) (hr : Room j X.A) (hk : k + 1 ≤ j) (hq : X.A.guards = some []) (hg : Gl X cn) (tk : Takes X W)
    (h : ∀ (kV doc pm : Value) (an : Option Addr) (cdv ct : Value) (us ws : List Value), us.length = 1 + n1 → ws.length = ks.length → bindArgs (PySem.W.fnOf "__init__" qual (defArgs st) (defBody st) (defScope st) .none kV doc pm an cdv ct) ⟨us, ks.zip ws⟩ = pure (ps.zip (us.take 1 ++ pickG n1 ks.length [] idx (us.drop 1) ws))) :
    DnK X B W cn ps.length n1 ks [] idx Fi := by
  obtain ⟨rfl, rfl, rfl, rfl, rfl⟩ := hX
  obtain ⟨C, f, fd, hC, Mc, F, G, hm⟩ := kn.ex
  refine ⟨⟨k, C, f, fd, ps, [], [], hK ▸ hC, Mc, hK ▸ G, hr.mono hk, hq, hg, hm, .nil, fun _ _ => .nil, ?_⟩, tk⟩
  obtain ⟨oc, od, kV, doc, pm, an, cdv, ct, osl, rfl, lk, hcd⟩ := F.ex
  exact fun s u0 us ws X0 l1 l2 => .of_eq (h kV doc pm an cdv ct (u0 :: us) ws (by rw [List.length_cons, l1, Nat.add_comm]) l2)
section
variable {X : Cx} {B : Bs} {W : WX} {e : Expr} {es : List Expr} {kws : List Keyword} {ka kk : F (List D)} {pos : Pos}
/-- C(e, .., k = v, ..) -/
def makeKF (cn : Str) (Fi : List D → FR) (n n1 n2 : Nat) (dds : List D) (idx : List Nat) (k kk : F (List D)) : F D := fun s => (k s).bind fun ds s1 => (kk s1).bind fun es s2 =>
  if ds.length = n1 ∧ es.length = n2 ∧ (pickG n1 n2 dds idx ds es).length + 1 = n then match madeR cn (Fi (.ins cn [] :: pickG n1 n2 dds idx ds es)) with
    | some (.inl fs) => .ok (.ins cn fs) s2
    | some (.inr x) => .er x s2
    | none => .no
  else .no
theorem makeK_run {cn : Str} {n n1 : Nat} {ks : List Str} {dds : List D} {idx : List Nat} {Fi : List D → FR} {k : Nat} {C f : Addr} {fd : FuncData} {ps : List Str} {its : List Value} {dvs : List V} {pins : List (Addr × Obj)} {σ : L2.St} {H : Hp} {s : Shared} {Q : VK} {us ws : List Value} {vs zs : List V} {M : MS} {sl : List Sl} {ds es' : List D}
    (hC : ClsAt B.K cn C) (Mc : Mk X.K C f) (F : FnG X.prog X.w X.K X.mg X.base k f fd ps (spF B.K true n Fi)) (hr : Room (k + 1) X.A) (hq : X.A.guards = some []) (tk : Takes X W) (rT : Vals dvs its) (rD : ∀ M H, RpL B.K M H dvs dds)
    (hb : ∀ (s : Shared) (u0 : Value) (us ws : List Value), X.K.In s.heap → us.length = n1 → ws.length = ks.length → BindsTo s fd ⟨u0 :: us, ks.zip ws⟩ (ps.zip (u0 :: pickG n1 ks.length its idx us ws)))
    (I : Inv X pins σ H s) (r : Vals vs us) (rz : Vals zs ws) (r1 : SR B M σ H sl) (q1 : RpL B.K M H vs ds) (q2 : RpL B.K M H zs es') (hl1 : ds.length = n1) (hl2 : es'.length = ks.length) (hn : (pickG n1 ks.length dds idx ds es').length + 1 = n)
    (p : Post B W (rhoD B) M H σ (match madeR cn (Fi (.ins cn [] :: pickG n1 ks.length dds idx ds es')) with | some (.inl fs) => .ok (.ins cn fs) sl | some (.inr x) => .er x sl | none => .no) Q) :
    wpAny (model X.prog X.w) X.A (call (.ref C) us (ks.zip ws)) (EP X pins σ Q) X.xe s := by
  have qd : RpL B.K M H (pickG n1 ks.length dvs idx vs zs) (pickG n1 ks.length dds idx ds es') := pick_gd rD M H vs zs ds es' q1 q2
  have want := made_spec (Q' := fun y H' => Q (.ref y) H') hC r1 qd hn (fun fs hf y dx H' ws ny g hy e l mo => by
      rw [hf] at p
      have ny1 : ¬ M y := r1.mo.there ny
      exact p (.ref y) H' M (r1.gro g) (.ins hy ny1 hC e (l.move mo (.sub fun _ z => .inl z))) (.gro g))
    (fun x hx cls od H' g qx => by
      rw [hx] at p
      exact p cls od H' M (r1.gro g) qx (.gro g)) (fun z => by
      rw [z] at p
      exact p) (s.heap.objs.size + 1) s.heap.objs.size (I.hok.fresh (Nat.le_succ _)) (I.hok.fresh (Nat.le_refl _)) (Nat.ne_of_lt (Nat.lt_succ_self _))
  have J := Inv.made (C := C) I
  have lv : (V.ref (s.heap.objs.size + 1) :: pickG n1 ks.length dvs idx vs zs).length = n := by rw [List.length_cons, qd.length]; exact hn
  rw [pick_range lv] at want
  have rg : Vals (V.ref (s.heap.objs.size + 1) :: pickG n1 ks.length dvs idx vs zs) (Value.ref (s.heap.objs.size + 1) :: pickG n1 ks.length its idx us ws) := .cons rfl (pick_vals rT r rz)
  refine wpAny_call (make_map (f := f) I.kIn Mc.makes Mc.init (beq_iff_eq.mp Mc.fn) (codeAny_mono (F.run _ X.stack _ _ ⟨Value.ref (s.heap.objs.size + 1) :: us, ks.zip ws⟩ _ _ _ (WE W σ) (hr.make C us (ks.zip ws)) hq (J.env0.make C us (ks.zip ws)) (hb _ _ us ws J.kIn (by rw [← r.length, q1.length, hl1]) (by rw [← rz.length, q2.length, hl2])) rg want) fun o s' ho => ?_))
  match o, ho with
  | .error z, ho => exact passAt tk σ pins _ _ z s' J ho
  | .ok (.ret u), ho =>
    obtain ⟨v, H', J', rv, ev, q3⟩ := J.after ho
    subst ev
    exact ⟨rv, ⟨V.ref (s.heap.objs.size + 1), H', J', rfl, q3⟩⟩
theorem se_makeK {cn : Str} {p : Pos} {n n1 : Nat} {ks : List Str} {dds : List D} {idx : List Nat} {Fi : List D → FR} (D0 : DnK X B W cn n n1 ks dds idx Fi) (ha : SA X B W (e :: es) ka) (hkw : SK X B W kws kk) (hall : (backToKw pos (keywordEach kws X.env)).all (·.1.isSome) = true := by rfl)
    (hks : (backToKw pos (keywordEach kws X.env)).filterMap (·.1) = ks := by rfl) (hdb : (cn == ("__debug__" : Str)) = false := by decide) (he : starEach (e :: es) X.env = (false, eval e X.env) :: starEach es X.env := by rfl)
    (hpl : ((backTo pos (starEach (e :: es) X.env)).any (·.1) || (backToKw pos (keywordEach kws X.env)).any (·.1.isNone)) = false := by rfl) : SE X B W (.Call (.Name cn p) (e :: es) kws pos) (makeKF cn Fi n n1 ks.length dds idx ka kk) := by
  obtain ⟨⟨k, C, f, fd, ps, its, dvs, hC, Mc, F, hr, hq, hg, hm, rT, rD, hb⟩, tk⟩ := D0
  refine ⟨fun pins s σ H Q I ⟨M, sl, r0, p0⟩ => wpAny_Call_Name_kw (ld_glob I hg hm ?_ hdb)⟩
  refine PySem.W.callWith_KW (h₀ := X.base) I.ok.mod.kin Mc.kp hall (thn (ha.run pos pins s σ H (fun vs H1 => ∃ M1 s1 ds, SR B M1 σ H1 s1 ∧ RpL B.K M1 H1 vs ds ∧ Post B W (rhoD B) M1 H1 σ ((kk s1).bind fun es s2 =>
    if ds.length = n1 ∧ es.length = ks.length ∧ (pickG n1 ks.length dds idx ds es).length + 1 = n then match madeR cn (Fi (.ins cn [] :: pickG n1 ks.length dds idx ds es)) with
      | some (.inl fs) => .ok (.ins cn fs) s2
      | some (.inr x) => .er x s2
      | none => .no
    else .no) Q) I ⟨M, sl, r0, Post.bind p0 fun ds s1 M1 H1 vs r1 q1 ev1 p1 => ⟨M1, s1, ds, r1, q1, p1⟩⟩) fun us s1 ⟨vs, H1, I1, r, M1, sl1, ds, r1, q1, p1⟩ => ?_) hpl he
  refine thn (hkw.run pos pins s1 σ H1 (fun zs H2 => ∃ M2 s2 es', SR B M2 σ H2 s2 ∧ RpL B.K M2 H2 vs ds ∧ RpL B.K M2 H2 zs es' ∧ Post B W (rhoD B) M2 H2 σ (if ds.length = n1 ∧ es'.length = ks.length ∧ (pickG n1 ks.length dds idx ds es').length + 1 = n then match madeR cn (Fi (.ins cn [] :: pickG n1 ks.length dds idx ds es')) with
      | some (.inl fs) => .ok (.ins cn fs) s2
      | some (.inr x) => .er x s2
      | none => .no
    else .no) Q) I1 ⟨M1, sl1, r1, Post.bind p1 fun es' s2 M2 H2 zs r2 q2 ev2 p2 => ⟨M2, s2, es', r2, q1.move r1.mo ev2, q2, p2⟩⟩) fun ws s2 ⟨zs, H2, I2, rz, M2, sl2, es', r2, q1', q2, p2⟩ => ⟨I2.kIn, ?_⟩
  rw [hks]
  split at p2
  case isFalse => exact p2.elim
  case isTrue hn => exact makeK_run hC Mc F hr hq tk rT rD hb I2 r rz r2 q1' q2 hn.1 hn.2.1 hn.2.2 p2
theorem se_makeK0 {cn : Str} {p : Pos} {n : Nat} {ks : List Str} {dds : List D} {idx : List Nat} {Fi : List D → FR} (D0 : DnK X B W cn n 0 ks dds idx Fi) (hkw : SK X B W kws kk) (hall : (backToKw pos (keywordEach kws X.env)).all (·.1.isSome) = true := by rfl)
    (hks : (backToKw pos (keywordEach kws X.env)).filterMap (·.1) = ks := by rfl) (hdb : (cn == ("__debug__" : Str)) = false := by decide)
    (hpl : ((backTo pos (starEach [] X.env)).any (·.1) || (backToKw pos (keywordEach kws X.env)).any (·.1.isNone)) = false := by rfl) : SE X B W (.Call (.Name cn p) [] kws pos) (makeKF cn Fi n 0 ks.length dds idx nilF kk) := by
  obtain ⟨⟨k, C, f, fd, ps, its, dvs, hC, Mc, F, hr, hq, hg, hm, rT, rD, hb⟩, tk⟩ := D0
  refine ⟨fun pins s σ H Q I ⟨M, sl, r0, p0⟩ => wpAny_Call_Name_kw (ld_glob I hg hm ?_ hdb)⟩
  refine PySem.W.callWith_KW0 (h₀ := X.base) I.ok.mod.kin Mc.kp hall (thn (hkw.run pos pins s σ H (fun zs H2 => ∃ M2 s2 es', SR B M2 σ H2 s2 ∧ RpL B.K M2 H2 zs es' ∧ Post B W (rhoD B) M2 H2 σ (if ([] : List D).length = 0 ∧ es'.length = ks.length ∧ (pickG 0 ks.length dds idx [] es').length + 1 = n then match madeR cn (Fi (.ins cn [] :: pickG 0 ks.length dds idx [] es')) with
      | some (.inl fs) => .ok (.ins cn fs) s2
      | some (.inr x) => .er x s2
      | none => .no
    else .no) Q) I ⟨M, sl, r0, ?_⟩) fun ws s2 ⟨zs, H2, I2, rz, M2, sl2, es', r2, q2, p2⟩ => ⟨I2.kIn, ?_⟩) hpl
  · unfold makeKF nilF at p0
    rw [R.bind_ok] at p0
    exact Post.bind p0 fun es' s2 M2 H2 zs r2 q2 ev2 p2 => ⟨M2, s2, es', r2, q2, p2⟩
  · rw [hks]
    split at p2
    case isFalse => exact p2.elim
    case isTrue hn => exact makeK_run hC Mc F hr hq tk rT rD hb I2 .nil rz r2 .nil q2 hn.1 hn.2.1 hn.2.2 p2
end
end Fx

set_option Elab.async false
set_option linter.all false
set_option maxRecDepth 100000
/-! Fx: facts of the head for exceptions and lambdas; step lemmas. -/
namespace Fx
section
variable [Tbl]
open PySem L2 PyProof.Rows LamX
/-! ### facts -/
/-- all of these classes are caught by the class of this name -/
structure ExmAll (K : PySem.W.Frag) (mg : Str → Option Value) (eN : Str) (cs : List Str) : Prop where
  ex : ∃ CS, mg eN = some (.ref CS) ∧ ∀ n ∈ cs, ∀ C, ClsAt K n C → PySem.W.exmOne K (.ref C) (.ref CS) = some true
/-- an own class of exceptions, as isinstance and fields ask -/
structure XCls (K : PySem.W.Frag) (cn : Str) (C : Addr) : Prop where
  at_ : ClsAt K cn C
  isC : (PySem.W.clsIn K C).isSome = true
  ex : ExcC K C
theorem XCls.xf {K : PySem.W.Frag} {cn : Str} {C : Addr} (h : XCls K cn C) : XfC K C := ⟨h.ex.hg, h.ex.hk, h.ex.hs, h.ex.hd⟩
structure XFld (K : PySem.W.Frag) (cn f : Str) : Prop where
  ex : ∃ C, XCls K cn C ∧ PySem.W.findIn K (.ref C) f = some none
theorem XFld.at {K : PySem.W.Frag} {cn f : Str} (h : XFld K cn f) : ∀ C, ClsAt K cn C → XfC K C ∧ PySem.W.findIn K (.ref C) f = some none := fun C hC => by
  obtain ⟨C', x, e⟩ := h.ex
  cases hC.uniq x.at_
  exact ⟨x.xf, e⟩
theorem IsiX.mk' {K : PySem.W.Frag} {mg : Str → Option Value} {cn : Str} {yes no : List Str} {C : Addr} (hm : mg cn = some (.ref C)) (hy : ∀ n ∈ yes, ∃ D, XCls K n D ∧ PySem.W.kitOne K (.ref D) (.ref C) = some true) (hn : ∀ n ∈ no, ∃ D, XCls K n D ∧ PySem.W.kitOne K (.ref D) (.ref C) = some false)
    (hb : ∀ t ∈ baseTys, PySem.W.kitOne K (.type t) (.ref C) = some false) : IsiX K mg cn yes no := by
  refine ⟨C, hm, fun n h D hD => ?_, fun n h D hD => ?_, hb⟩
  · obtain ⟨D', x, e⟩ := hy n h
    cases hD.uniq x.at_
    exact ⟨x.isC, x.ex, e⟩
  · obtain ⟨D', x, e⟩ := hn n h
    cases hD.uniq x.at_
    exact ⟨x.isC, x.ex, e⟩
theorem superIn_of {K : PySem.W.Frag} {C : Addr} {cd : ClassData} {r : Option (Option Value)} (h : PySem.W.clsIn K C = some cd) (hr : PySem.W.alongIn K "__init__" ((cd.mro.dropWhile (· != .ref C)).drop 1) = r) : PySem.W.ks_superIn K C C "__init__" = r := by
  unfold PySem.W.ks_superIn
  rw [h]
  exact hr
end
open PySem L2 PyProof.Rows LamX
theorem tabIn_of {K : PySem.W.Frag} {x : Str} {f c P : Addr} {oc : Value} {od : Option Addr} {fd : FuncData} {osl : Array (Option Value)} {cc : Value} {cd : Option Addr} {vs : Array Value} {cs : Array (Option Value)} (a : PySem.W.nsIn K mainGlobals x = some (some (.ref f))) (l : K.lookup f = some ⟨oc, od, .func fd, osl⟩) (hc : fd.code = .ref c)
    (lc : K.lookup c = some ⟨cc, cd, .fields vs, cs⟩) (hv : (vs[11]? : Option Value) = some (.ref P)) : PySem.W.tabIn K x = some (c, P) := by
  unfold PySem.W.tabIn
  rw [a]
  dsimp only
  rw [l]
  dsimp only
  rw [hc]
  dsimp only
  rw [lc]
  dsimp only
  rw [hv]
theorem lam_at {base : Heap} {mg : Str → Option Value} {cs : List (Addr × Addr × Str)} {c P : Addr} {q : Str} (TB : ∀ p ∈ cs, TabB base mg p.1 p.2.1) (nd : (cs.map (·.2.1)).Nodup) (hm : (c, P, q) ∈ cs) : @LamAt ⟨cs.map (·.2)⟩ base mg (.ref c) q := by
  refine ⟨c, P, rfl, TB _ hm, List.mem_map.mpr ⟨_, hm, rfl⟩, fun p hp e => ?_⟩
  obtain ⟨r, hr, er⟩ := List.mem_map.mp (show p ∈ cs.map (·.2) from hp)
  subst er
  have key : ∀ (l : List (Addr × Addr × Str)), (l.map (·.2.1)).Nodup → ∀ a ∈ l, ∀ b ∈ l, a.2.1 = b.2.1 → a = b := by
    intro l
    induction l with
    | nil => intro _ a ha; cases ha
    | cons x l ih =>
      intro n a ha b hb e
      rw [List.map_cons, List.nodup_cons] at n
      rcases List.mem_cons.mp ha with ea | ha
      · rcases List.mem_cons.mp hb with eb | hb
        · rw [ea, eb]
        · exact absurd (List.mem_map.mpr ⟨b, hb, by rw [← e, ea]⟩) n.1
      · rcases List.mem_cons.mp hb with eb | hb
        · exact absurd (List.mem_map.mpr ⟨a, ha, by rw [e, eb]⟩) n.1
        · exact ih n.2 a ha b hb e
  rw [key cs nd r hr _ hm e]
def okPreB (ti : Option Nat) : Nat → List Sl → Bool
  | _, [] => true
  | i, y :: r => (match y with | .un => true | .va .non => true | .ow (.l []) => decide (ti = some i) | _ => false) && okPreB ti (i + 1) r
theorem okPre_by {ti : Option Nat} {r1 : List Sl} (h : okPreB ti 0 r1 = true) : okPre r1 ti := by
  have key : ∀ (r : List Sl) (m : Nat), okPreB ti m r = true → ∀ (i : Nat) (y : Sl), r[i]? = some y → y = .un ∨ y = .va .non ∨ (y = .ow (.l []) ∧ ti = some (m + i)) := by
    intro r
    induction r with
    | nil => intro m _ i y e; cases e
    | cons x r ih =>
      intro m h i y e
      unfold okPreB at h
      rw [Bool.and_eq_true] at h
      cases i with
      | zero =>
        cases e
        have h1 := h.1
        split at h1
        · exact .inl rfl
        · exact .inr (.inl rfl)
        · exact .inr (.inr ⟨rfl, of_decide_eq_true h1⟩)
        · cases h1
      | succ i =>
        rcases ih (m + 1) h.2 i y e with z | z | ⟨z, z2⟩
        · exact .inl z
        · exact .inr (.inl z)
        · exact .inr (.inr ⟨z, by rw [z2]; congr 1; omega⟩)
  intro i y e
  have := key r1 0 h i y e
  rwa [Nat.zero_add] at this
/-! ### step lemmas -/
section
variable {s s1 : List Sl} {d w : D} {ds : List D} {x : XD} {f : F D} {k kk : F (List D)} {hd : D ⊕ XD → Option D} {c cn n : Str} {fs ns yes no : List Str} {gs : List (Str × D)} {gr : G} {m fi ci : Nat} {ok : Str → Bool} {r1 : List Sl} {hk : HK} {Fi : List D → FR} {n0 n1 n2 : Nat} {dds : List D} {idx : List Nat}
theorem ev_lam : lamF hd f s = match f s with
  | .ok d s' => toR (hd (.inl d)) s'
  | .er x s' => toR (hd (.inr x)) s'
  | .no => .no := rfl
theorem ev_ra : raG cn fs k s = (k s).out fun ds s1 => if ds.length = fs.length then .er ⟨cn, (fs.zip ds).reverse⟩ s1 else .no := rfl
theorem ev_xfld : xfldF ns n f s = (f s).bind fun d s1 => match d with
  | .exc c fs => if c ∈ ns then toR (fs.lookup n) s1 else .no
  | _ => .no := rfl
theorem ev_isX : isiXD yes no (.exc c gs) = if c ∈ yes then some (.bl true) else if c ∈ no then some (.bl false) else none := rfl
theorem ev_isX_non : isiXD yes no .non = some (.bl false) := rfl
theorem ev_hd_found : heardD gr r1 (.found fi) ci ok (.inl d) = outV (gr (r1.set fi (.va d))) := rfl
theorem ev_hd_ret : heardD gr r1 .ret ci ok (.inl d) = some (.lst [d]) := rfl
theorem ev_hd_expr : heardD gr r1 .expr ci ok (.inl d) = outV (gr r1) := rfl
theorem ev_hd_er : heardD gr r1 hk ci ok (.inr x) = if ok x.C = true then outV (gr (r1.set ci (.va (.exc x.C x.fs)))) else none := rfl
theorem ev_outV : outV (.rt d s) = some d := rfl
theorem ev_outVn : outV (.rn ds s) = some (.lst ds) := rfl
theorem ev_makeK : makeKF cn Fi n0 n1 n2 dds idx k kk s = (k s).bind fun ds s1 => (kk s1).bind fun es s2 =>
  if ds.length = n1 ∧ es.length = n2 ∧ (pickG n1 n2 dds idx ds es).length + 1 = n0 then match madeR cn (Fi (.ins cn [] :: pickG n1 n2 dds idx ds es)) with
    | some (.inl fs) => .ok (.ins cn fs) s2
    | some (.inr x) => .er x s2
    | none => .no
  else .no := rfl
end
end Fx
namespace Fx
open PySem L2 PyProof.Rows
theorem exm_mk {K : PySem.W.Frag} {C CS : Addr} (b : PySem.W.subIn K (.ref CS) (.type "BaseException") = some true) (c : PySem.W.isClsIn K CS = true) (y : PySem.W.typeIn K (.ref CS) = some (.type "type")) (h : PySem.W.subIn K (.ref C) (.ref CS) = some true) : PySem.W.exmOne K (.ref C) (.ref CS) = some true := by
  unfold PySem.W.exmOne
  rw [if_pos (by rw [b]; rfl)]
  unfold PySem.W.kitCls
  have e : ((PySem.W.clsIn K CS).isSome && PySem.W.typeIn K (.ref CS) == some (.type "type")) = true := by
    rw [show (PySem.W.clsIn K CS).isSome = true from c, y]
    rfl
  show (if ((PySem.W.clsIn K CS).isSome && PySem.W.typeIn K (.ref CS) == some (.type "type")) = true then PySem.W.subIn K (.ref C) (.ref CS) else none) = _
  rw [if_pos e]
  exact h
end Fx
namespace Fx
variable [Tbl]
open PySem L2 PyProof.Rows
theorem fnD_by {K : PySem.W.Frag} {x qual : Str} {st : Stmt} {f T : Addr} {oc : Value} {od an td : Option Addr} {osl ts : Array (Option Value)} {kV doc pm cdv ct tc : Value} {its : List Value} {n : Nat} {dvs : List V} {dds : List D} (l : K.lookup f = some ⟨oc, od, .func (PySem.W.fnOf x qual (defArgs st) (defBody st) (defScope st) (.ref T) kV doc pm an cdv ct), osl⟩)
    (c : PySem.W.codeIn K cdv qual = true) (k : PySem.W.keepIn K (.ref f) = true) (lT : K.lookup T = some ⟨tc, td, .seq its.toArray n, ts⟩) (ne : dvs ≠ []) (v : Vals dvs its) (rp : ∀ M H, RpL K M H dvs dds) : FnD K x qual st f (PySem.W.fnOf x qual (defArgs st) (defBody st) (defScope st) (.ref T) kV doc pm an cdv ct) dvs dds :=
  ⟨⟨⟨oc, od, .ref T, kV, doc, pm, an, cdv, ct, osl, rfl, l, c, .inr ⟨ne, T, _, its, n, rfl, lT, rfl, v⟩, .inl rfl⟩, k⟩, ne, rp⟩
end Fx

set_option Elab.async false
set_option linter.all false
set_option maxRecDepth 100000
/-! Fx: how a def ends, step by step. -/
namespace Fx
open PySem L2 PyProof.Rows
/-- the def ends with the value d, what it was handed first is m then -/
def EndR (io : Bool) (o : Out) (d : D) (m : MO) : Prop := ∃ s', o = .rt d s' ∧ ioOf io s' = m
theorem EndR.out {io : Bool} {o : Out} {d : D} {m : MO} (h : EndR io o d m) : outF io o = .ret d m := by
  obtain ⟨s', rfl, rfl⟩ := h
  rfl
theorem EndR.seq {io : Bool} {A C : G} {s s1 : List Sl} {d : D} {m : MO} (h : A s = .nx s1) (k : EndR io (C s1) d m) : EndR io (seqG A C s) d m := by
  unfold seqG
  rw [h]
  exact k
theorem EndR.rt {io : Bool} {s : List Sl} {d : D} : EndR io (.rt d s) d (ioOf io s) := ⟨_, rfl, rfl⟩
theorem EndR.of {io : Bool} {o : Out} {s : List Sl} {d : D} {m : MO} (h : o = .rt d s) (e : ioOf io s = m) : EndR io o d m := ⟨s, h, e⟩
end Fx

set_option Elab.async false
set_option linter.all false
set_option maxRecDepth 100000
/-! Fx: {}, shifts and bits, tuple(range(..)), range with a step, name op= e. -/
namespace Fx
section
variable [Tbl]
open PySem L2 PyProof.Rows
section
variable {X : Cx} {B : Bs} {W : WX} {a b e e2 e3 tg : Expr} {f g h : F D} {p pos : Pos}
/-! ### {} -/
theorem se_dic0 : SE X B W (.Dict [] [] pos) (cF (.dic [] [])) := PE.imp pe_dnewK fun σ H Q ⟨M, s, r, p⟩ => fun q hq => p.grow r (same_upd hq) (.dic upd_same (r.mo.there hq) rfl .nil)
/-! ### shifts, bits -/
def shrD : D → D → Option D
  | .int i, .int j => if 0 ≤ j then some (.int (i / 2 ^ j.toNat)) else none
  | _, _ => none
theorem op_shrD : ∃ r, OpR X (binaryOp .RShift) r ∧ Op2 X.K r shrD := by
  refine ⟨_, op_shr, fun x y d e M H v u Q m qx qy k => ?_⟩
  unfold shrD at e
  split at e
  · split at e
    · rename_i hc
      cases e
      cases qx
      cases qy
      exact ⟨_, _, rfl, rfl, hc, k _ H same_rfl (.int _)⟩
    · cases e
  · cases e
instance {i j : Int} : Decidable (CShl i j) := by unfold CShl; exact inferInstance
def shlD : D → D → Option D
  | .int i, .int j => if CShl i j then some (.int (i * 2 ^ j.toNat)) else none
  | _, _ => none
theorem op_shlD : ∃ r, OpR X (binaryOp .LShift) r ∧ Op2 X.K r shlD := by
  refine ⟨_, op_shlW, fun x y d e M H v u Q m qx qy k => ?_⟩
  unfold shlD at e
  split at e
  · split at e
    · rename_i hc
      cases e
      cases qx
      cases qy
      exact ⟨_, _, rfl, rfl, hc, k _ H same_rfl (.int _)⟩
    · cases e
  · cases e
def bandD : D → D → Option D
  | .int i, .int j => some (.int (Builtin.bitAnd i j))
  | _, _ => none
def bxorD : D → D → Option D
  | .int i, .int j => some (.int (Builtin.bitXor i j))
  | _, _ => none
def borD : D → D → Option D
  | .int i, .int j => some (.int (Builtin.bitOr i j))
  | _, _ => none
theorem op_bandD : ∃ r, OpR X (binaryOp .BitAnd) r ∧ Op2 X.K r bandD := by
  refine ⟨_, op_and, fun x y d e M H v u Q m qx qy k => ?_⟩
  unfold bandD at e
  split at e
  · cases e
    cases qx
    cases qy
    exact ⟨_, _, rfl, rfl, k _ H same_rfl (.int _)⟩
  · cases e
theorem op_bxorD : ∃ r, OpR X (binaryOp .BitXor) r ∧ Op2 X.K r bxorD := by
  refine ⟨_, op_xor, fun x y d e M H v u Q m qx qy k => ?_⟩
  unfold bxorD at e
  split at e
  · cases e
    cases qx
    cases qy
    exact ⟨_, _, rfl, rfl, k _ H same_rfl (.int _)⟩
  · cases e
theorem op_borD : ∃ r, OpR X (binaryOp .BitOr) r ∧ Op2 X.K r borD := by
  refine ⟨_, op_or, fun x y d e M H v u Q m qx qy k => ?_⟩
  unfold borD at e
  split at e
  · cases e
    cases qx
    cases qy
    exact ⟨_, _, rfl, rfl, k _ H same_rfl (.int _)⟩
  · cases e
/-! ### name op= e -/
theorem ip_addA : ∃ r, OpR X (inplaceOp .Add) r ∧ Op2 X.K r iaddD := by
  refine ⟨_, iop_add, fun x y d e M H v u Q m qx qy k => ?_⟩
  unfold iaddD at e
  split at e
  · cases e
    cases qx
    cases qy
    exact ⟨_, _, rfl, rfl, k _ H same_rfl (.int _)⟩
  · cases e
theorem ip_subA : ∃ r, OpR X (inplaceOp .Sub) r ∧ Op2 X.K r isubD := by
  refine ⟨_, iop_sub, fun x y d e M H v u Q m qx qy k => ?_⟩
  unfold isubD at e
  split at e
  · cases e
    cases qx
    cases qy
    exact ⟨_, _, rfl, rfl, k _ H same_rfl (.int _)⟩
  · cases e
/-- *= of ints one of which is small -/
def imulD : D → D → Option D
  | .int i, .int j => if CMul i j then some (.int (i * j)) else none
  | _, _ => none
theorem ip_mulA : ∃ r, OpR X (inplaceOp .Mult) r ∧ Op2 X.K r imulD := by
  refine ⟨_, iop_mul, fun x y d e M H v u Q m qx qy k => ?_⟩
  unfold imulD at e
  split at e
  · split at e
    · rename_i hc
      cases e
      cases qx
      cases qy
      exact ⟨_, _, rfl, rfl, hc, k _ H same_rfl (.int _)⟩
    · cases e
  · cases e
theorem ip_fdivA : ∃ r, OpR X (inplaceOp .FloorDiv) r ∧ Op2 X.K r fdivD := by
  refine ⟨_, iop_fdivW, fun x y d e M H v u Q m qx qy k => ?_⟩
  unfold fdivD at e
  split at e
  · split at e
    · rename_i hc
      cases e
      cases qx
      cases qy
      exact ⟨_, _, rfl, rfl, hc, k _ H same_rfl (.int _)⟩
    · cases e
  · cases e
theorem ss_augO {i : Nat} {x : Str} {op : Operator} {o : D → D → Option D} {pos' : Pos} (hK : X.K = B.K) (hN : X.N.Nodup) (hi : X.N[i]? = some x) (hx : Loc X.env.scope x) (ho : ∃ r, OpR X (inplaceOp op) r ∧ Op2 X.K r o) (he : SE X B W e f) (hf : X.fn x = true ∨ X.env.scope.names.lookup x = some .local := by first | exact .inl rfl | exact .inr rfl | assumption) :
    SS X B W (.AugAssign (.Name x pos') op e pos) (augG i o f) := by
  obtain ⟨r, h1, h2⟩ := ho
  exact ss_aug hN hi hx h1 (hK ▸ h2) he hf
/-! ### tuple(range(..)) -/
def trng1F (f : F D) : F D := fun s => (f s).bind fun x s1 => match x with
  | .int n => if rngOk 0 n = true then .ok (.tup (rngD 0 n)) s1 else .no
  | _ => .no
def trng2F (f g : F D) : F D := fun s => (f s).bind fun x s1 => (g s1).bind fun y s2 => match x, y with
  | .int a, .int b => if rngOk a b = true then .ok (.tup (rngD a b)) s2 else .no
  | _, _ => .no
theorem se_tup1 {p' pos' : Pos} (hc : X.calm = true) (hgl : Gl X "tuple") (hml : X.mg "tuple" = none) (hg : Gl X "range") (hm : X.mg "range" = none) (he : SE X B W e f) (na : starEach [e] X.env = (false, eval e X.env) :: starEach [] X.env := by rfl)
    (nb : starEach [.Call (.Name "range" p) [e] [] pos] X.env = (false, eval (.Call (.Name "range" p) [e] [] pos) X.env) :: starEach [] X.env := by rfl) : SE X B W (.Call (.Name "tuple" p') [.Call (.Name "range" p) [e] [] pos] [] pos') (trng1F f) := by
  refine PE.imp (pe_tupRg hc hgl hml (prg_1 hg hm he na) nb) fun σ H Q ⟨M, s, r, p⟩ => ⟨M, s, r, Post.bind p fun x s1 M1 H1 v r1 q1 ev1 p1 => ?_⟩
  split at p1
  · split at p1
    · rename_i n hn
      cases q1
      exact ⟨n, rfl, rngOk.run hn, fun q hq => p1.grow r1 (same_upd hq) (new_tup r1.mo hq (rngD.run _ _))⟩
    · exact p1.elim
  · exact p1.elim
theorem se_tup2 {p' pos' : Pos} (hc : X.calm = true) (hgl : Gl X "tuple") (hml : X.mg "tuple" = none) (hg : Gl X "range") (hm : X.mg "range" = none) (he : SE X B W e f) (he2 : SE X B W e2 g) (na : starEach [e, e2] X.env = (false, eval e X.env) :: starEach [e2] X.env := by rfl)
    (nc : starEach [e2] X.env = (false, eval e2 X.env) :: starEach [] X.env := by rfl) (hpl : (backTo pos (starEach [e2] X.env)).any (·.1) = false := by rfl)
    (nb : starEach [.Call (.Name "range" p) [e, e2] [] pos] X.env = (false, eval (.Call (.Name "range" p) [e, e2] [] pos) X.env) :: starEach [] X.env := by rfl) : SE X B W (.Call (.Name "tuple" p') [.Call (.Name "range" p) [e, e2] [] pos] [] pos') (trng2F f g) := by
  refine PE.imp (pe_tupRg hc hgl hml (prg_2 hg hm he he2 na nc hpl) nb) fun σ H Q ⟨M, s, r, p⟩ => ⟨M, s, r, Post.bind p fun x s1 M1 H1 v r1 q1 ev1 p1 => ⟨M1, s1, r1, Post.bind p1 fun y s2 M2 H2 u r2 q2 ev2 p2 => ?_⟩⟩
  split at p2
  · split at p2
    · rename_i a b hn
      cases q1
      cases q2
      exact ⟨a, b, rfl, rfl, rngOk.run hn, fun q hq => p2.grow r2 (same_upd hq) (new_tup r2.mo hq (rngD.run _ _))⟩
    · exact p2.elim
  · exact p2.elim
/-! ### range(a, b, c) walked -/
def rng3D (i c : Int) (n : Nat) : List D := (List.range n).map fun j => D.int (i + (j : Nat) * c)
def rng3F (f g h : F D) : F (List D) := fun s => (f s).bind fun x s1 => (g s1).bind fun y s2 => (h s2).bind fun z s3 => match x, y, z with
  | .int i, .int j, .int c => if c ≠ 0 ∧ c.natAbs < 1073741824 ∧ Builtin.Range.small i j c = true then match Builtin.Range.rangeSize i j c with
      | .ofNat n => .ok (rng3D i c n) s3
      | .negSucc _ => .no
    else .no
  | _, _, _ => .no
theorem wk_rng3 {K : PySem.W.Frag} {M : MS} {H : Hp} {i c : Int} {n : Nat} : Wk K M H (Itc i c n) (rng3D i c n) where
  go := fun k d M' H' m ev e => by
    unfold rng3D at e
    rw [List.getElem?_map] at e
    cases h : (List.range n)[k]? with
    | none => rw [h] at e; cases e
    | some j =>
      rw [h] at e
      cases e
      obtain ⟨hi, hj⟩ := List.getElem?_eq_some_iff.mp h
      rw [List.length_range] at hi
      rw [List.getElem_range] at hj
      subst hj
      refine ⟨hi, fun x H'' y => ?_⟩
      obtain ⟨rfl, rfl⟩ := y
      exact ⟨same_rfl, .int _⟩
  stop := fun M' H' m ev => by
    show n ≤ (rng3D i c n).length
    unfold rng3D
    rw [List.length_map, List.length_range]
    exact Nat.le_refl _
theorem si_rng3 (hg : Gl X "range") (hm : X.mg "range" = none) (he : SE X B W e f) (he2 : SE X B W e2 g) (he3 : SE X B W e3 h) (hs : starEach [e, e2, e3] X.env = (false, eval e X.env) :: starEach [e2, e3] X.env := by rfl) (hs2 : starEach [e2, e3] X.env = (false, eval e2 X.env) :: starEach [e3] X.env := by rfl)
    (hs3 : starEach [e3] X.env = (false, eval e3 X.env) :: starEach [] X.env := by rfl) (hpl : (backTo pos (starEach [e2, e3] X.env)).any (·.1) = false := by rfl) : SI X B W tg (.Call (.Name "range" p) [e, e2, e3] [] pos) (rng3F f g h) := by
  refine PI.imp (pi_range3 hg hm (pa_cons he (pa_cons he2 (pa_cons he3 pa_nil hs3) hs2) hs) hs hpl) fun σ H Q ⟨M, s, r, p⟩ => ⟨M, s, r, PostI.bind p fun x s1 M1 H1 v r1 q1 ev1 p1 => ⟨M1, s1, r1, PostI.bind p1 fun y s2 M2 H2 u r2 q2 ev2 p2 => ⟨M2, s2, r2, PostI.bind p2 fun z s3 M3 H3 w r3 q3 ev3 p3 => ?_⟩⟩⟩
  split at p3
  · split at p3
    · rename_i i j c hc
      split at p3
      · rename_i n hn
        cases q1
        cases q2
        cases q3
        exact ⟨i, j, c, n, rfl, ⟨hc.1, hc.2.1, hc.2.2, hn⟩, p3.out r3 wk_rng3⟩
      · exact p3.elim
    · exact p3.elim
  · exact p3.elim
end
end
/-! ### step lemmas -/
section
open PySem L2
variable {s : List Sl} {f g h : F D} {i j : Int} {o : D → D → Option D} {k : Nat}
theorem ev_shr (h : 0 ≤ j) : shrD (.int i) (.int j) = some (.int (i / 2 ^ j.toNat)) := if_pos h
theorem ev_band : bandD (.int i) (.int j) = some (.int (Builtin.bitAnd i j)) := rfl
theorem ev_bxor : bxorD (.int i) (.int j) = some (.int (Builtin.bitXor i j)) := rfl
theorem ev_bor : borD (.int i) (.int j) = some (.int (Builtin.bitOr i j)) := rfl
theorem ev_aug : augG k o f s = match s[k]? with
  | some (.va x) => (f s).out fun y s1 => match o x y with
    | some z => if okSl s1 k = true then .nx (s1.set k (.va z)) else .no
    | none => .no
  | _ => .no := rfl
theorem ev_trng1 : trng1F f s = (f s).bind fun x s1 => match x with
  | .int n => if rngOk 0 n = true then .ok (.tup (rngD 0 n)) s1 else .no
  | _ => .no := rfl
theorem ev_trng2 : trng2F f g s = (f s).bind fun x s1 => (g s1).bind fun y s2 => match x, y with
  | .int a, .int b => if rngOk a b = true then .ok (.tup (rngD a b)) s2 else .no
  | _, _ => .no := rfl
end
end Fx

set_option Elab.async false
set_option linter.all false
set_option maxRecDepth 100000
namespace Fx
variable [Tbl]
open PySem L2
/-! ### comprehensions with two fors -/
theorem wipe_sub {σ : L2.St} {vs vs1 : List Nat} (h : ∀ i ∈ vs1, i ∈ vs) : wipe (wipe σ vs1) vs = wipe σ vs := wipe_eq (wipe_length σ vs1) fun i hi => by rw [wipe_get, if_neg fun z => hi (h i z)]
theorem wipeS_sub {s : List Sl} {vs vs1 : List Nat} (h : ∀ i ∈ vs1, i ∈ vs) : wipeS (wipeS s vs1) vs = wipeS s vs := by
  refine List.ext_getElem? fun i => ?_
  rw [wipeS_get (wipeS s vs1) i vs, wipeS_get s i vs, wipeS_length]
  by_cases hi : i ∈ vs
  · rw [if_pos hi, if_pos hi]
  · rw [if_neg hi, if_neg hi, wipeS_get s i vs1, if_neg fun z => hi (h i z)]
def compL2 (vs : List Nat) (a : AS) (u : F Bool) (k1 : F (List D)) (vs1 : List Nat) (a1 : AS) (u1 : F Bool) (f : F D) : List D → F (List D)
  | [], s => .ok [] s
  | d :: ds, s => match a d (wipeS s vs) with
    | none => .no
    | some s1 => match u s1 with
      | .ok true s2 => match k1 s2 with
        | .ok ds1 s3 => match compL vs1 a1 u1 f ds1 s3 with
          | .ok ys s4 => match compL2 vs a u k1 vs1 a1 u1 f ds s4 with
            | .ok zs s5 => .ok (ys ++ zs) s5
            | _ => .no
          | _ => .no
        | _ => .no
      | .ok false s2 => compL2 vs a u k1 vs1 a1 u1 f ds s2
      | _ => .no
def compN2 (kI : F (List D)) (vs : List Nat) (a : AS) (u : F Bool) (k1 : F (List D)) (vs1 : List Nat) (a1 : AS) (u1 : F Bool) (f : F D) : F (List D) := fun s => (kI s).bind fun ds s1 =>
  if vs.all (okC s1) = true then match compL2 vs a u k1 vs1 a1 u1 f ds s1 with
    | .ok ys s2 => if ys.length ≤ sizeLine then .ok ys (restS s1 s2 vs) else .no
    | _ => .no
  else .no
section
variable {X : Cx} {B : Bs} {W : WX}
theorem PI.ex {tg iter : Expr} {I : Type} {P : I → Prop} {t : I → TI} (h : ∀ i, P i → PI X tg iter (t i)) : PI X tg iter (fun σ H Q => ∃ i, P i ∧ t i σ H Q) := ⟨fun pins s σ H R I ⟨i, hi, q⟩ => (h i hi).run pins s σ H R I q⟩
theorem lc2_read {kI k1 : F (List D)} {vs vs1 ks ks1 : List Nat} {a a1 : AS} {u u1 : F Bool} {f : F D} {σ : L2.St} {H : Hp} {Q : VK} (hks : ∀ i ∈ ks, i ∈ vs) (hks1 : ∀ i ∈ ks1, i ∈ vs1) (hvs : ∀ i ∈ vs1, i ∈ vs) (h : tN B W (compN2 kI vs a u k1 vs1 a1 u1 f) σ H Q) :
    tLc2 (tI B W kI) (fun v σ H Q => ∃ B' : Bs, B'.K = B.K ∧ tA B' ks a v σ H Q) (fun σ H Q => ∃ B' : Bs, B'.K = B.K ∧ tP B' W0 rhoB u σ H Q) (fun σ H Q => ∃ B' : Bs, B'.K = B.K ∧ tI B' W0 k1 σ H Q)
      (fun v σ H Q => ∃ B' : Bs, B'.K = B.K ∧ tA B' ks1 a1 v σ H Q) (fun σ H Q => ∃ B' : Bs, B'.K = B.K ∧ tP B' W0 rhoB u1 σ H Q) (fun σ H Q => ∃ B' : Bs, B'.K = B.K ∧ tP B' W0 (rhoD B') f σ H Q) vs vs1 σ H Q := by
  obtain ⟨M, s, r, p⟩ := h
  refine ⟨M, s, r, ?_⟩
  unfold compN2 at p
  cases hk : kI s with
  | no => rw [hk] at p; exact p.elim
  | er x s1 => rw [hk] at p; exact p
  | ok ds s1 =>
    rw [hk, R.bind_ok] at p
    intro J H1 M1 r1 wk ev1 A hA
    split at p
    case isFalse => exact p.elim
    case isTrue hall =>
    have hok : ∀ v ∈ vs, okC s1 v = true := fun v hv => List.all_eq_true.mp hall v hv
    split at p
    case h_2 => exact p.elim
    case h_1 tot sfin htot =>
    split at p
    case isFalse => exact p.elim
    case isTrue hz =>
    have notIo : ∀ {M' : MS} {σ' : L2.St} {H' : Hp} {s' : List Sl} {B' : Bs}, B'.pa = B.pa → SR B' M' σ' H' s' → ∀ v ∈ vs, ∀ ds : MO, s'[v]? ≠ some (.io ds) := fun {M' σ' H' s' B'} hp r' v hv ds e => by
      obtain ⟨z, a', _, h1, _⟩ := r'.io v ds e
      subst z
      obtain ⟨_, es, h2⟩ := r1.pa a' (hp ▸ h1)
      have q := hok 0 hv
      unfold okC at q
      rw [h2] at q
      cases q
    obtain ⟨rA, oA⟩ := r1.newOwned (ds := []) hA RpL.nil
    obtain ⟨xs0, hx0, hm0, h00, hl0, hL0, hno0⟩ := oA
    have evA : Ev M1 H1 (With M1 A) (upd H1 A (.lst [])) := ⟨fun c z => z.elim .inl fun z => .inr (z ▸ fr0_none hA), .same (same_upd hA)⟩
    rw [upd_same] at hx0
    cases hx0
    have ownA : ∀ {M' : MS} {σ' : L2.St} {H' : Hp} {s' : List Sl}, SR B M' σ' H' s' → (∀ (j : Nat) (es : MO), s'[j]? = some (.ow es) → σ'[j]? ≠ some (some (.ref A))) → ¬ Own σ' s' A := fun {M' σ' H' s'} r' hn ⟨j, es, h1, h2⟩ => by
      rcases h1 with h1 | h1
      · exact hn j es h1 h2
      · obtain ⟨z, a', _, h3, h4, _⟩ := r'.io j es h1
        subst z
        rw [h2] at h4
        cases h4
        exact r'.bm.thereF h00 (r'.pa _ h3).1
    have lockA : ∀ {l : List V}, (B.lock A (.lst l)).L A = some (.lst l) := fun {l} => if_pos rfl
    have rW := (rA.locked upd_same hm0 (ownA rA hno0)).wiped (vs := vs) (notIo rfl r1)
    refine ⟨fun i m H' => m = ds.length - i ∧ i ≤ ds.length ∧ ∃ M' s' acc accd ys, SR (B.lock A (.lst acc)) M' (wipe σ vs) H' (wipeS s' vs) ∧ Ev (With M1 A) (upd H1 A (.lst [])) M' H' ∧ RpL B.K M' H' acc accd ∧ compL2 vs a u k1 vs1 a1 u1 f (ds.drop i) s' = .ok ys sfin ∧ tot = accd ++ ys,
      ⟨ds.length, rfl, Nat.zero_le _, With M1 A, s1, [], [], tot, rW, .rfl, .nil, htot, rfl⟩, ?_⟩
    rintro i m H2 ⟨rfl, hi, M2, s2, acc, accd, ys, r2, ev2, q2, hL, htot2⟩
    by_cases hlt : i < ds.length
    · obtain ⟨d, hd⟩ : ∃ d, ds[i]? = some d := ⟨ds[i], List.getElem?_eq_getElem hlt⟩
      have hdr : ds.drop i = d :: ds.drop (i + 1) := by
        rw [List.drop_eq_getElem_cons hlt]
        rw [List.getElem?_eq_getElem hlt] at hd
        cases hd
        rfl
      obtain ⟨hgo, hy⟩ := wk.go i d M2 H2 r2.mo (evA.trans ev2) hd
      refine .inr ⟨hgo, fun H' => ∃ M' s' acc accd ys, SR (B.lock A (.lst acc)) M' (wipe σ vs) H' (wipeS s' vs) ∧ Ev (With M1 A) (upd H1 A (.lst [])) M' H' ∧ RpL B.K M' H' acc accd ∧ compL2 vs a u k1 vs1 a1 u1 f (ds.drop (i + 1)) s' = .ok ys sfin ∧ tot = accd ++ ys,
        fun H' q => ⟨ds.length - (i + 1), by omega, rfl, hlt, q⟩, fun x H3 y => ?_⟩
      obtain ⟨sm, qx⟩ := hy x H3 y
      rw [hdr] at hL
      unfold compL2 at hL
      split at hL
      case h_1 => cases hL
      case h_2 s3 ha =>
      refine ⟨B.lock A (.lst acc), rfl, M2, wipeS s2 vs, d, r2.grow sm, qx, ?_⟩
      rw [ha]
      intro σ4 H4 M4 r4 ev4 o4
      have ev24 := (Ev.same (M := M2) sm).trans ev4
      have hw : wipe σ4 vs = wipe σ vs := by
        have := wipe_eq (vs := vs) o4.1 fun j hj => o4.2 j fun z => hj (hks j z)
        rw [this, wipe_wipe]
      refine ⟨hw, B.lock A (.lst acc), rfl, M4, s3, r4, ?_⟩
      have again : ∀ {M' : MS} {H' : Hp} {s' : List Sl} {l : List V}, SR (B.lock A (.lst l)) M' σ4 H' s' → SR (B.lock A (.lst l)) M' (wipe σ vs) H' (wipeS s' vs) := fun {M' H' s' l} r' => by
        have := r'.wiped (vs := vs) (notIo (B' := B.lock A (.lst l)) rfl r')
        rw [hw] at this
        exact this
      cases hu : u s3 with
      | no => rw [hu] at hL; cases hL
      | er x s5 => rw [hu] at hL; cases hL
      | ok b s5 =>
        rw [hu] at hL
        intro b' H5 M5 r5 hb ev5
        have hb : b' = b := hb
        subst hb
        cases b' with
        | false =>
          show ∃ M' s' acc accd ys, _
          exact ⟨M5, s5, acc, accd, ys, again r5, (ev2.trans ev24).trans ev5, (q2.move r2.mo ev24).move r4.mo ev5, hL, htot2⟩
        | true =>
          dsimp only at hL
          rw [if_pos rfl]
          refine ⟨B.lock A (.lst acc), rfl, M5, s5, r5, ?_⟩
          cases hk1 : k1 s5 with
          | no => rw [hk1] at hL; cases hL
          | er x s6 => rw [hk1] at hL; cases hL
          | ok ds1 s6 =>
            rw [hk1] at hL
            dsimp only at hL
            split at hL
            case h_2 => cases hL
            case h_1 ys1 s7 hys1 =>
            split at hL
            case h_2 => cases hL
            case h_1 zs s8 hzs =>
            cases hL
            intro J1 H6 M6 r6 wk1 ev6
            have eall := ev24.trans (ev5.trans ev6)
            have q6 : RpL B.K M6 H6 acc accd := q2.move r2.mo eall
            have back : ∀ {M' : MS} {H' : Hp} {s' : List Sl} {l : List V}, SR (B.lock A (.lst l)) M' (wipe σ4 vs1) H' (wipeS s' vs1) → SR (B.lock A (.lst l)) M' (wipe σ vs) H' (wipeS s' vs) := fun {M' H' s' l} r' => by
              have := r'.wiped (vs := vs) (notIo (B' := B.lock A (.lst l)) rfl r')
              rw [wipe_sub hvs, hw, wipeS_sub hvs] at this
              exact this
            have rW1 := r6.wiped (vs := vs1) fun v hv => notIo (B' := B.lock A (.lst acc)) rfl r6 v (hvs v hv)
            refine ⟨fun j k H' => k = ds1.length - j ∧ j ≤ ds1.length ∧ ∃ M' s' acc accd ys, SR (B.lock A (.lst acc)) M' (wipe σ4 vs1) H' (wipeS s' vs1) ∧ Ev M6 H6 M' H' ∧ RpL B.K M' H' acc accd ∧ compL vs1 a1 u1 f (ds1.drop j) s' = .ok ys s7 ∧ tot = accd ++ (ys ++ zs),
              ⟨ds1.length, rfl, Nat.zero_le _, M6, s6, acc, accd, ys1, rW1, .rfl, q6, hys1, htot2⟩, ?_⟩
            rintro j k H7 ⟨rfl, hj, M7, t7, acc7, accd7, ys7, r7, ev7, q7, hL7, htot7⟩
            by_cases hlt1 : j < ds1.length
            · obtain ⟨d1, hd1⟩ : ∃ d, ds1[j]? = some d := ⟨ds1[j], List.getElem?_eq_getElem hlt1⟩
              have hdr1 : ds1.drop j = d1 :: ds1.drop (j + 1) := by
                rw [List.drop_eq_getElem_cons hlt1]
                rw [List.getElem?_eq_getElem hlt1] at hd1
                cases hd1
                rfl
              obtain ⟨hgo1, hy1⟩ := wk1.go j d1 M7 H7 r7.mo ev7 hd1
              refine .inr ⟨hgo1, fun H' => ∃ M' s' acc accd ys, SR (B.lock A (.lst acc)) M' (wipe σ4 vs1) H' (wipeS s' vs1) ∧ Ev M6 H6 M' H' ∧ RpL B.K M' H' acc accd ∧ compL vs1 a1 u1 f (ds1.drop (j + 1)) s' = .ok ys s7 ∧ tot = accd ++ (ys ++ zs),
                fun H' q => ⟨ds1.length - (j + 1), by omega, rfl, hlt1, q⟩, fun x1 H8 y1 => ?_⟩
              obtain ⟨sm1, qx1⟩ := hy1 x1 H8 y1
              rw [hdr1] at hL7
              unfold compL at hL7
              split at hL7
              case h_1 => cases hL7
              case h_2 t8 ha1 =>
              refine ⟨B.lock A (.lst acc7), rfl, M7, wipeS t7 vs1, d1, r7.grow sm1, qx1, ?_⟩
              rw [ha1]
              intro σ9 H9 M9 r9 ev9 o9
              have ev79 := (Ev.same (M := M7) sm1).trans ev9
              have hw1 : wipe σ9 vs1 = wipe σ4 vs1 := by
                have := wipe_eq (vs := vs1) o9.1 fun i hi => o9.2 i fun z => hi (hks1 i z)
                rw [this, wipe_wipe]
              refine ⟨hw1, B.lock A (.lst acc7), rfl, M9, t8, r9, ?_⟩
              have again1 : ∀ {M' : MS} {H' : Hp} {s' : List Sl} {l : List V}, SR (B.lock A (.lst l)) M' σ9 H' s' → SR (B.lock A (.lst l)) M' (wipe σ4 vs1) H' (wipeS s' vs1) := fun {M' H' s' l} r' => by
                have := r'.wiped (vs := vs1) fun v hv => notIo (B' := B.lock A (.lst l)) rfl r' v (hvs v hv)
                rw [hw1] at this
                exact this
              cases hu1 : u1 t8 with
              | no => rw [hu1] at hL7; cases hL7
              | er x s5 => rw [hu1] at hL7; cases hL7
              | ok b1 t9 =>
                rw [hu1] at hL7
                intro b1' H10 M10 r10 hb1 ev10
                have hb1 : b1' = b1 := hb1
                subst hb1
                cases b1' with
                | false =>
                  show ∃ M' s' acc accd ys, _
                  exact ⟨M10, t9, acc7, accd7, ys7, again1 r10, (ev7.trans ev79).trans ev10, (q7.move r7.mo ev79).move r9.mo ev10, hL7, htot7⟩
                | true =>
                  dsimp only at hL7
                  rw [if_pos rfl]
                  refine ⟨B.lock A (.lst acc7), rfl, M10, t9, r10, ?_⟩
                  cases hf : f t9 with
                  | no => rw [hf] at hL7; cases hL7
                  | er x s6 => rw [hf] at hL7; cases hL7
                  | ok y t10 =>
                    rw [hf] at hL7
                    dsimp only at hL7
                    split at hL7
                    case h_2 => cases hL7
                    case h_1 ys' t11 hys =>
                    cases hL7
                    intro v H11 M11 r11 q11 ev11
                    have eall1 := ev79.trans (ev10.trans ev11)
                    have q11' : RpL B.K M11 H11 acc7 accd7 := q7.move r7.mo eall1
                    obtain ⟨r12, ev12⟩ := r11.relock (ys := acc7 ++ [v]) h00
                    refine ⟨acc7, (r11.lk A _ lockA).2.1, ?_, M11, t10, acc7 ++ [v], accd7 ++ [y], ys', again1 r12, ((ev7.trans eall1).trans ev12), (q11'.move r11.mo ev12).snoc (Rp.move r11.mo ev12 q11), hys, ?_⟩
                    · rw [q7.length]
                      rw [htot7] at hz
                      simp only [List.length_append, List.length_cons] at hz
                      omega
                    · rw [htot7, List.append_assoc]
                      rfl
            · have e : j = ds1.length := by omega
              subst e
              rw [List.drop_length] at hL7
              unfold compL at hL7
              cases hL7
              refine .inl ⟨wk1.stop M7 H7 r7.mo ev7, M7, s7, acc7, accd7, zs, back r7, ?_, q7, hzs, htot7⟩
              exact (ev2.trans eall).trans ev7
    · have e : i = ds.length := by omega
      subst e
      rw [List.drop_length] at hL
      unfold compL2 at hL
      cases hL
      rw [List.append_nil] at htot2
      subst htot2
      refine .inl ⟨wk.stop M2 H2 r2.mo (evA.trans ev2), ?_⟩
      obtain ⟨hmA, hA2, hnA⟩ := r2.lk A _ lockA
      have rU := r2.unlock hL0
      have rF := r1.restore (s3 := sfin) rU (evA.trans ev2) hok
      refine p A H2 M2 rF ⟨acc, hA2, hmA, h00, q2, hL0, fun j es h z => ?_⟩ ((ev1.trans evA).trans ev2)
      by_cases hj : j ∈ vs
      · have q := hok j hj
        unfold okC at q
        rw [restS_get, if_pos hj] at h
        split at h
        · have hl1 : j < s1.length := by
            rename_i hl
            have := rU.len
            rw [wipeS_length, wipe_length] at this
            rw [r1.len, ← this]
            exact hl
          rw [List.getD_eq_getElem?_getD, List.getElem?_eq_getElem hl1] at h
          rw [List.getElem?_eq_getElem hl1] at q
          simp only [Option.getD_some, Option.some.injEq] at h
          rw [h] at q
          cases q
        · cases h
      · refine hnA ⟨j, es, .inl ?_, by rw [wipe_get, if_neg hj]; exact z⟩
        rw [restS_get, if_neg hj] at h
        rw [wipeS_get, if_neg hj]
        exact h
theorem sn_lc2 {elt tg iter tg1 iter1 : Expr} {ifs ifs1 : List Expr} {scope : Scope} {own : List (Str × Nat)} {pos : Pos} {kI k1 : F (List D)} {ks ks1 vs1 : List Nat} {a a1 : AS} {u u1 : F Bool} {f : F D} (hc : X.calm = true) (hN : X.N.Nodup) (hi : SI X B W tg iter kI) (ok : BlkOk X.N X.env.scope scope own) (hv : ∀ i ∈ vs1, i ∈ own.map (·.2))
    (hg : ∀ (s : Shared) (H : Hp) (C : Addr) (cl : List (Str × Addr)) (fp : List Addr) (B' : Bs), B'.K = B.K → SG (X.blk s H scope (compEnvC scope cl C X.env) fp) B' ks tg a)
    (ht : ∀ (s : Shared) (H : Hp) (C : Addr) (cl : List (Str × Addr)) (fp : List Addr) (B' : Bs), B'.K = B.K → STs (X.blk s H scope (compEnvC scope cl C X.env) fp) B' W0 ifs u)
    (hi1 : ∀ (s : Shared) (H : Hp) (C : Addr) (cl : List (Str × Addr)) (fp : List Addr) (B' : Bs), B'.K = B.K → SI (X.blk s H scope (compEnvC scope cl C X.env) fp) B' W0 tg1 iter1 k1)
    (hg1 : ∀ (s : Shared) (H : Hp) (C : Addr) (cl : List (Str × Addr)) (fp : List Addr) (B' : Bs), B'.K = B.K → SG (X.blk s H scope (compEnvC scope cl C X.env) fp) B' ks1 tg1 a1)
    (ht1 : ∀ (s : Shared) (H : Hp) (C : Addr) (cl : List (Str × Addr)) (fp : List Addr) (B' : Bs), B'.K = B.K → STs (X.blk s H scope (compEnvC scope cl C X.env) fp) B' W0 ifs1 u1)
    (he : ∀ (s : Shared) (H : Hp) (C : Addr) (cl : List (Str × Addr)) (fp : List Addr) (B' : Bs), B'.K = B.K → SE (X.blk s H scope (compEnvC scope cl C X.env) fp) B' W0 elt f)
    (hks : ∀ i ∈ ks, i ∈ own.map (·.2)) (hks1 : ∀ i ∈ ks1, i ∈ vs1) (hs : ∀ x, foldedSetIterable iter X.env x = pure x := by intro _; rfl) (hs1 : ∀ env x, foldedSetIterable iter1 env x = pure x := by intro _ _; rfl) :
    SN X B W (.ListComp elt [⟨tg, iter, ifs, 0⟩, ⟨tg1, iter1, ifs1, 0⟩] scope pos) (compN2 kI (own.map (·.2)) a u k1 vs1 a1 u1 f) :=
  PE.imp (pe_lc2 hc hN hi ok hv (fun s H C cl fp => PG.ex (hg s H C cl fp)) (fun s H C cl fp => PTs.ex (ht s H C cl fp)) (fun s H C cl fp => PI.ex (hi1 s H C cl fp)) (fun s H C cl fp => PG.ex (hg1 s H C cl fp)) (fun s H C cl fp => PTs.ex (ht1 s H C cl fp)) (fun s H C cl fp => PE.ex (he s H C cl fp)) hs hs1)
    fun σ H Q p => lc2_read hks hks1 hv p
end
end Fx

set_option Elab.async false
set_option linter.all false
set_option maxRecDepth 100000
namespace Fx
variable [Tbl]
open PySem L2 PyProof.Rows
/-! ### own[e] as a target; names of a tuple that take own lists, swapped by nobody -/
def ixA (i : Nat) (g : F D) : AS := fun d s => match ownAt s i with
  | none => none
  | some _ => match g s with
    | .ok (.int j) s2 => match ownAt s2 i with
      | some ds => match ixN ds.length j with
        | some n => ownPut s2 i (ds.set n d)
        | none => none
      | none => none
    | _ => none
section
variable {X : Cx} {B : Bs} {W : WX} {e : Expr} {es : List Expr} {pos : Pos} {M M' : MS} {σ : L2.St} {H H' : Hp} {s : List Sl}
theorem sg_ix (i : Nat) {x : Str} {e' : Expr} {p' tpos : Pos} {g : F D} (hK : X.K = B.K) (hg : SE X B W0 e' g) (hN : X.N[i]? = some x := by rfl) (hv : Vis X.env.scope x := by first | exact Or.inl rfl | exact Or.inr (Or.inl rfl) | exact Or.inr (Or.inr rfl))
    (hd : (x == ("__debug__" : Str)) = false := by decide) (hcd : (x == ("__classdict__" : Str)) = false := by decide)
    (ha : ∀ v, assign (.Subscript (.Name x p') e' tpos) X.env v = (do
      let ov ← holding [v] (eval (.Name x p') X.env)
      let iv ← holding [v, ov] (eval e' X.env)
      standAt tpos
      holding [v, ov, iv] (setItem ov iv v)
      release [v, ov, iv] []) := by intro _; rfl) : SG X B [] (.Subscript (.Name x p') e' tpos) (ixA i g) := by
  refine PG.imp (pg_sub (pe_var hN hv hd hcd) hg set_list ha) fun v σ H Q ⟨M, s, d, r, q, p⟩ => ?_
  unfold ixA at p
  cases e0 : ownAt s i with
  | none => rw [e0] at p; exact p.elim
  | some es0 =>
    rw [e0] at p
    obtain ⟨a, xs0, e1, hq0, _⟩ := ownAt.run r e0
    refine ⟨_, e1, M, s, r, ?_⟩
    cases eg : g s with
    | no => rw [eg] at p; exact p.elim
    | er x s2 => rw [eg] at p; exact p.elim
    | ok y s2 =>
      rw [eg] at p
      intro w H2 M2 r2 q2 ev2
      cases y with
      | int j =>
        dsimp only at p
        cases q2
        cases e2 : ownAt s2 i with
        | none => rw [e2] at p; exact p.elim
        | some ds =>
          rw [e2] at p
          dsimp only at p
          cases en : ixN ds.length j with
          | none => rw [en] at p; exact p.elim
          | some n =>
            rw [en] at p
            dsimp only at p
            cases e4 : ownPut s2 i (ds.set n d) with
            | none => rw [e4] at p; exact p.elim
            | some s3 =>
              rw [e4] at p
              obtain ⟨a2, xs, es2, e5, e6, h7, h8, h9, _⟩ := ownPut.run r2 e4
              rw [e2] at e5
              cases e5
              rw [e1] at e6
              cases e6
              obtain ⟨r3, ev3⟩ := ownPut.upd r2 e4 e1 (RpL.set (q.move r.mo ev2) n h9)
              exact ⟨a, xs, j, n, rfl, rfl, h7, by rw [h9.length]; exact en, p σ _ M2 r3 (ev2.trans ev3) ⟨rfl, fun _ _ => rfl⟩⟩
      | _ => exact p.elim
theorem Lk.move {B B' : Bs} {vs : List V} {as : List AR} (h : Lk M H B vs as B') (m : MOk M H) (ev : Ev M H M' H') : Lk M' H' B vs as B' := by
  induction h with
  | nil => exact .nil
  | va q _ ih => exact .va (q.move m ev) ih
  | ow h1 h2 h3 _ ih => exact .ow h1 h2 (h3.move m ev) ih
theorem PostM.outL {r : R (List AR)} {g : List AR → G} {E : Ends} {Q1 : List V → Hp → Prop} (h : PostS B W M H (r.out g) E)
    (k : ∀ as s1 M1 H1 vs B', SR B' M1 σ H1 s1 → Lk M1 H1 B vs as B' → Ev M H M1 H1 → PostS B W M1 H1 (g as s1) E → Q1 vs H1) : PostM B W M H σ r Q1 := by
  cases r with
  | ok as s' => exact fun vs H2 M2 B' r2 l2 ev2 => k as s' M2 H2 vs B' r2 l2 ev2 (PostS.later h ev2)
  | er x s' => exact fun cls od H' M' a b => h cls od σ H' M' a b
  | no => exact h
theorem ss_tup2M {k : F (List AR)} {a b : Expr} {i j : Nat} {x y : Str} {px py pt : Pos} {kt : Nat} {k2 pt2} (hc : X.calm = true) (hK : X.K = B.K) (hN : X.N.Nodup) (hi : X.N[i]? = some x) (hj : X.N[j]? = some y) (hx : Loc X.env.scope x) (hy : Loc X.env.scope y) (ha : SM X B W [a, b] k)
    (fx : X.fn x = true ∨ X.env.scope.names.lookup x = some .local := by first | exact .inl rfl | exact .inr rfl | assumption) (fy : X.fn y = true ∨ X.env.scope.names.lookup y = some .local := by first | exact .inl rfl | exact .inr rfl | assumption)
    (hs : swapsWithSole [.Tuple [.Name x px, .Name y py] kt pt] (.Tuple [a, b] k2 pt2) pos.line X.env = pure false := by rfl) (hw : swappedStores [.Tuple [.Name x px, .Name y py] kt pt] (.Tuple [a, b] k2 pt2) X.env = pure none := by rfl)
    (h1 : (assignEach [.Tuple [.Name x px, .Name y py] kt pt] X.env).map (·.2) = [assign (.Tuple [.Name x px, .Name y py] kt pt) X.env] := by rfl)
    (hn : (assignEach [.Name x px, .Name y py] X.env).length = 2 := by rfl) (hst : (assignEach [.Name x px, .Name y py] X.env).findIdx? (·.1) = none := by rfl)
    (c1 : (assignEach [.Name x px, .Name y py] X.env).map (·.2) = assign (.Name x px) X.env :: (assignEach [.Name y py] X.env).map (·.2) := by rfl)
    (c2 : (assignEach [.Name y py] X.env).map (·.2) = assign (.Name y py) X.env :: (assignEach [] X.env).map (·.2) := by rfl) : SS X B W (.Assign [.Tuple [.Name x px, .Name y py] kt pt] (.Tuple [a, b] k2 pt2) pos) (parMG [i, j] k) := by
  refine PS.imp (ps_asg (pe_tup ha) (pg_tup hc (pgs_cons (pg_name hN hi hx fx) (pgs_cons (pg_name hN hj hy fy) pgs_nil c2) c1) hn hst) hs hw h1) fun E σ H ⟨M, s, r, p⟩ => ⟨M, s, r, PostM.outL p fun as s1 M1 H1 vs B' r1 l1 ev1 p1 => ?_⟩
  split at p1
  · rename_i s2 e2
    have two : as.length = 2 := by
      match as, e2 with
      | [a, b], _ => rfl
      | [], e => cases e
      | [a], e => unfold putA at e; split at e <;> cases e
      | a :: b :: c :: _, e => unfold putA at e; split at e; unfold putA at e; split at e; all_goals cases e
    have hl : vs.length = 2 := ((l1.unl r1).2.len).trans two
    refine ⟨by rw [hl, sizeLine_eq]; decide, fun p na => ?_⟩
    have r2 := r1.grow (same_upd (o := .tup vs) na)
    have l2 := l1.move r1.mo (.same (same_upd (o := .tup vs) na))
    obtain ⟨r3, o3⟩ := l2.unl r2
    have r4 := o3.put r3 e2
    refine ⟨p, vs, rfl, hK ▸ .of upd_same, hl, ?_⟩
    match vs, hl with
    | [u, v], _ => exact ⟨u, [v], rfl, v, [], rfl, rfl, p1 _ _ M1 r4 (.same (same_upd na))⟩
  · exact p1.elim
end
end Fx

set_option Elab.async false
set_option linter.all false
set_option maxRecDepth 100000
namespace Fx
variable [Tbl]
open PySem L2 PyProof.Rows
/-! ### list.index among ints; own.pop(e) as a value -/
def firstI (i : Int) : List Int → Option Nat
  | [] => none
  | n :: ns => if n = i then some 0 else (firstI i ns).map (· + 1)
def idxD : D → D → Option D
  | .lst ds, .int i => (intsD ds).bind fun ns => (firstI i ns).map fun j => .int (j : Nat)
  | _, _ => none
theorem firstI_at {i : Int} : ∀ {ns : List Int} {j : Nat}, firstI i ns = some j → ns[j]? = some i ∧ ∀ m z, m < j → ns[m]? = some z → z ≠ i
  | [], _, h => by cases h
  | n :: ns, j, h => by
    unfold firstI at h
    split at h
    · rename_i e
      cases h
      subst e
      exact ⟨rfl, fun m z hm => absurd hm (Nat.not_lt_zero _)⟩
    · rename_i e
      cases hf : firstI i ns with
      | none => rw [hf] at h; cases h
      | some k =>
        rw [hf] at h
        cases h
        obtain ⟨h1, h2⟩ := firstI_at hf
        refine ⟨h1, fun m z hm hz => ?_⟩
        cases m with
        | zero => cases hz; exact e
        | succ m => exact h2 m z (Nat.lt_of_succ_lt_succ hm) hz
section
variable {X : Cx} {B : Bs} {W : WX} {o e : Expr} {f g : F D} {apos cpos : Pos}
theorem all_flat (ns : List Int) : (ns.map V.int).all flatV = true := by
  induction ns with
  | nil => rfl
  | cons n ns ih => exact ih
def idxF (f g : F D) : F D := fun s => (f s).bind fun x s1 => match x with
  | .lst ds => (g s1).bind fun y s2 => toR (idxD (.lst ds) y) s2
  | _ => .no
theorem se_index (hK : X.K = B.K) (he : SE X B W o f) (hg : SE X B W e g) (hbase : attributeBase o "index" X.env (eval o X.env) = eval o X.env := by rfl)
    (hfew : ((backTo cpos (starEach [e] X.env)).all (fun x => !x.1) && (backToKw cpos (keywordEach [] X.env)).all (fun x => x.1.isSome)
      && decide (([e] : List Expr).length + ([] : List Keyword).length + (if ([] : List Keyword).isEmpty then 0 else 1) < 30)) = true := by rfl)
    (hline : (apos.endLine == cpos.line) = true := by rfl) (hs : starEach [e] X.env = (false, eval e X.env) :: starEach [] X.env := by rfl) (hplain : (backTo cpos (starEach [] X.env)).any (·.1) = false := by rfl) :
    SE X B W (.Call (.Attribute o "index" apos) [e] [] cpos) (idxF f g) := by
  refine PE.imp (pe_bm PySem.F.plainAttrs_list PySem.F.slot_list_index PySem.F.type_list_index mt_index he (pa_cons hg pa_nil hs) hbase hfew hline hs hplain) fun σ H Q ⟨M, s, r, p⟩ => ⟨M, s, r, Post.bind p fun x s1 M1 H1 v r1 q1 ev1 p1 => ?_⟩
  split at p1
  · rename_i ds
    obtain ⟨a, xs, rfl, h1, h2⟩ := q1.seq
    refine ⟨.inl ⟨rfl, xs, hK ▸ h1⟩, M1, s1, r1, Post.bind p1 fun y s2 M2 H2 u r2 q2 ev2 p2 => ?_⟩
    unfold idxD at p2
    cases y with
    | int i =>
      cases q2
      dsimp only at p2
      cases hn : intsD ds with
      | none => rw [hn] at p2; exact p2.elim
      | some ns =>
        rw [hn, Option.bind_some] at p2
        cases hf : firstI i ns with
        | none => rw [hf] at p2; exact p2.elim
        | some j =>
          rw [hf] at p2
          obtain ⟨z1, z2⟩ := firstI_at hf
          obtain ⟨a', xs', e', h3, h4⟩ := (Rp.move r1.mo ev2 q1).seq
          cases e'
          have hv := intsD.run h4 hn
          subst hv
          refine ⟨a, ns.map V.int, .int i, j, .int i, rfl, rfl, hK ▸ h3, rfl, all_flat ns, ?_, ?_, fun m z' hm hz => ?_, p2 _ H2 M2 r2 (.int _) .rfl⟩
          · rw [List.getElem?_map, z1]
            rfl
          · show (i == i) = true
            exact beq_self_eq_true i
          · rw [List.getElem?_map] at hz
            cases hz2 : ns[m]? with
            | none => rw [hz2] at hz; cases hz
            | some n =>
              rw [hz2] at hz
              cases hz
              show (n == i) = false
              exact beq_eq_false_iff_ne.mpr (z2 m n hm hz2)
    | _ => exact p2.elim
  · exact p1.elim
/-- one reading or the other -/
def elseF (f g : F D) : F D := fun s => match f s with
  | .no => g s
  | r => r
theorem se_else {e : Expr} {f g : F D} (h1 : SE X B W e f) (h2 : SE X B W e g) : SE X B W e (elseF f g) := ⟨fun pins s σ H Q I ⟨M, s', r, p⟩ => by
  unfold elseF at p
  cases h : f s' with
  | no => rw [h] at p; exact h2.run pins s σ H Q I ⟨M, s', r, p⟩
  | er x s2 => rw [h] at p; exact h1.run pins s σ H Q I ⟨M, s', r, by rw [h]; exact p⟩
  | ok d s2 => rw [h] at p; exact h1.run pins s σ H Q I ⟨M, s', r, by rw [h]; exact p⟩⟩
/-- e[::-1] of a list, of a tuple -/
def revE (f : F D) : F D := elseF (revTF f) (lstF' (revLF f))
theorem se_rev {k : Nat} {p1 p2 p3 pos : Pos} {e : Expr} {f : F D} (hK : X.K = B.K) (he : SE X B W e f) : SE X B W (.Subscript e (.Slice none none (some (.UnaryOp .USub (.Constant (.int 1) k p1) p2)) p3) pos) (revE f) := se_else (se_revT hK he) (se_new (sn_revL hK he))
end
section
variable {s : List Sl} {f g : F D}
theorem ev_revE : revE f s = (f s).bind fun d s1 => match d with
  | .tup ds => .ok (.tup ds.reverse) s1
  | .lst ds => .ok (.lst ds.reverse) s1
  | .fz ds => .ok (.lst ds.reverse) s1
  | _ => .no := by
  unfold revE elseF revTF lstF' revLF
  cases f s with
  | ok d s1 => cases d <;> rfl
  | er x s1 => rfl
  | no => rfl
theorem ev_idxF : idxF f g s = (f s).bind fun x s1 => match x with
  | .lst ds => (g s1).bind fun y s2 => toR (idxD (.lst ds) y) s2
  | _ => .no := rfl
theorem ev_pop {i : Nat} : popF i g s = match ownAt s i with
  | none => .no
  | some _ => (g s).bind fun y s1 => match y, ownAt s1 i with
    | .int j, some ds => if -(2 ^ 63) ≤ j ∧ j < 2 ^ 63 then match seqIndex? j ds.length with
      | some n => match ds[n]?, ownPut s1 i (ds.eraseIdx n) with
        | some d, some s2 => .ok d s2
        | _, _ => .no
      | none => .no
      else .no
    | _, _ => .no := rfl
end
end Fx

set_option Elab.async false
set_option linter.all false
set_option maxRecDepth 100000
set_option maxHeartbeats 4000000
namespace Fx
variable [Tbl]
open PySem L2 PyProof.Rows
/-! ### the text -/
def topS (i : Nat) : Stmt := PySem.Challenge.pw_saveagain_k33_whole_best_parameters.main.body.getD i (.Pass ⟨0, 0, 0, 0⟩)
abbrev s__law_well : Stmt := topS 34
abbrev s__law_draw : Stmt := topS 35
abbrev s__law_one : Stmt := topS 36
abbrev s__law_row : Stmt := topS 47
abbrev s__law_power : Stmt := topS 37
abbrev s__law_digits : Stmt := topS 39
abbrev s__law_low : Stmt := topS 38
abbrev s__law_gamma : Stmt := topS 44
abbrev s__law_rice : Stmt := topS 45
abbrev s__law_sizes : Stmt := topS 48
abbrev s_is_list : Stmt := topS 15
abbrev s_is_integer : Stmt := topS 12
abbrev s_need_row : Stmt := topS 20
abbrev s_digits_in : Stmt := topS 16
abbrev s_gamma_size : Stmt := topS 26
abbrev s_size_by : Stmt := topS 28
abbrev s_least_parameter : Stmt := topS 29
abbrev s_best_parameter : Stmt := topS 32
abbrev s_need_natural : Stmt := topS 19
abbrev s_is_within : Stmt := topS 13
abbrev s_need_parameter : Stmt := topS 24
abbrev s_rice_size : Stmt := topS 31
abbrev s_lowest_bits : Stmt := topS 17
abbrev s_gamma_bits : Stmt := topS 25
abbrev s_rice_bits : Stmt := topS 27
abbrev s_rice : Stmt := topS 30
abbrev s__law_right : Stmt := topS 49
abbrev s__law_heard : Stmt := topS 46
abbrev s__law_refused_right : Stmt := topS 50
abbrev s_law : Stmt := topS 51
abbrev sx_BadNumber : Stmt := inClass (topS 2) 0
abbrev sx_BadRow : Stmt := inClass (topS 4) 0
theorem sc__law_well : FnScope ["script", "cell"] ["script"] (defScope s__law_well) := ⟨rfl, rfl, rfl, by decide +kernel, rfl, by decide +kernel, by decide +kernel⟩
theorem sc__law_draw : FnScope ["well", "many", "left", "turn", "cell", "mixed"] ["well", "many"] (defScope s__law_draw) := ⟨rfl, rfl, rfl, by decide +kernel, rfl, by decide +kernel, by decide +kernel⟩
theorem sc__law_one : FnScope ["well", "some"] ["well", "some"] (defScope s__law_one) := ⟨rfl, rfl, rfl, by decide +kernel, rfl, by decide +kernel, by decide +kernel⟩
theorem sc__law_row : FnScope ["well", "far", "many", "way", "base", "row", "turn"] ["well"] (defScope s__law_row) := ⟨rfl, rfl, rfl, by decide +kernel, rfl, by decide +kernel, by decide +kernel⟩
theorem sc__law_power : FnScope ["many", "found", "turn"] ["many"] (defScope s__law_power) := ⟨rfl, rfl, rfl, by decide +kernel, rfl, by decide +kernel, by decide +kernel⟩
theorem sc__law_digits : FnScope ["number", "many"] ["number"] (defScope s__law_digits) := ⟨rfl, rfl, rfl, by decide +kernel, rfl, by decide +kernel, by decide +kernel⟩
theorem sc__law_low : FnScope ["number", "many", "found", "turn"] ["number", "many"] (defScope s__law_low) := ⟨rfl, rfl, rfl, by decide +kernel, rfl, by decide +kernel, by decide +kernel⟩
theorem sc__law_gamma : FnScope ["number", "many"] ["number"] (defScope s__law_gamma) := ⟨rfl, rfl, rfl, by decide +kernel, rfl, by decide +kernel, by decide +kernel⟩
theorem sc__law_rice : FnScope ["number", "parameter", "high", "first"] ["number", "parameter"] (defScope s__law_rice) := ⟨rfl, rfl, rfl, by decide +kernel, rfl, by decide +kernel, by decide +kernel⟩
theorem sc__law_sizes : FnScope ["row", "parameter", "number"] ["row"] (defScope s__law_sizes) := ⟨rfl, rfl, rfl, by decide +kernel, rfl, by decide +kernel, by decide +kernel⟩
theorem sc_is_list : FnScope ["value"] ["value"] (defScope s_is_list) := ⟨rfl, rfl, rfl, by decide +kernel, rfl, by decide +kernel, by decide +kernel⟩
theorem sc_is_integer : FnScope ["value"] ["value"] (defScope s_is_integer) := ⟨rfl, rfl, rfl, by decide +kernel, rfl, by decide +kernel, by decide +kernel⟩
theorem sc_need_row : FnScope ["row", "least", "at", "number"] ["row", "least"] (defScope s_need_row) := ⟨rfl, rfl, rfl, by decide +kernel, rfl, by decide +kernel, by decide +kernel⟩
theorem sc_digits_in : FnScope ["number", "many"] ["number"] (defScope s_digits_in) := ⟨rfl, rfl, rfl, by decide +kernel, rfl, by decide +kernel, by decide +kernel⟩
theorem sc_gamma_size : FnScope ["number"] ["number"] (defScope s_gamma_size) := ⟨rfl, rfl, rfl, by decide +kernel, rfl, by decide +kernel, by decide +kernel⟩
theorem sc_size_by : FnScope ["number", "parameter", "high"] ["number", "parameter"] (defScope s_size_by) := ⟨rfl, rfl, rfl, by decide +kernel, rfl, by decide +kernel, by decide +kernel⟩
theorem sc_least_parameter : FnScope ["numbers", "sizes", "parameter", "number"] ["numbers"] (defScope s_least_parameter) := ⟨rfl, rfl, rfl, by decide +kernel, rfl, by decide +kernel, by decide +kernel⟩
theorem sc_best_parameter : FnScope ["numbers"] ["numbers"] (defScope s_best_parameter) := ⟨rfl, rfl, rfl, by decide +kernel, rfl, by decide +kernel, by decide +kernel⟩
theorem sc_need_natural : FnScope ["number", "part"] ["number", "part"] (defScope s_need_natural) := ⟨rfl, rfl, rfl, by decide +kernel, rfl, by decide +kernel, by decide +kernel⟩
theorem sc_is_within : FnScope ["value", "least", "most"] ["value", "least", "most"] (defScope s_is_within) := ⟨rfl, rfl, rfl, by decide +kernel, rfl, by decide +kernel, by decide +kernel⟩
theorem sc_need_parameter : FnScope ["parameter"] ["parameter"] (defScope s_need_parameter) := ⟨rfl, rfl, rfl, by decide +kernel, rfl, by decide +kernel, by decide +kernel⟩
theorem sc_rice_size : FnScope ["number", "parameter"] ["number", "parameter"] (defScope s_rice_size) := ⟨rfl, rfl, rfl, by decide +kernel, rfl, by decide +kernel, by decide +kernel⟩
theorem sc_lowest_bits : FnScope ["number", "many", "at"] ["number", "many"] (defScope s_lowest_bits) := ⟨rfl, rfl, rfl, by decide +kernel, rfl, by decide +kernel, by decide +kernel⟩
theorem sc_gamma_bits : FnScope ["number", "many"] ["number"] (defScope s_gamma_bits) := ⟨rfl, rfl, rfl, by decide +kernel, rfl, by decide +kernel, by decide +kernel⟩
theorem sc_rice_bits : FnScope ["number", "parameter", "high", "first"] ["number", "parameter"] (defScope s_rice_bits) := ⟨rfl, rfl, rfl, by decide +kernel, rfl, by decide +kernel, by decide +kernel⟩
theorem sc_rice : FnScope ["number", "parameter"] ["number", "parameter"] (defScope s_rice) := ⟨rfl, rfl, rfl, by decide +kernel, rfl, by decide +kernel, by decide +kernel⟩
theorem sc__law_right : FnScope ["well", "row", "sizes", "due", "parameter", "told", "number", "size"] ["well"] (defScope s__law_right) := ⟨rfl, rfl, rfl, by decide +kernel, rfl, by decide +kernel, by decide +kernel⟩
theorem sc__law_heard : FnScope ["ask", "found", "caught", "error"] ["ask"] (defScope s__law_heard) := ⟨rfl, rfl, rfl, by decide +kernel, rfl, by decide +kernel, by decide +kernel⟩
theorem sc__law_refused_right : FnScope ["well", "row", "place", "heard", "bad"] ["well"] (defScope s__law_refused_right) := ⟨rfl, rfl, rfl, by decide +kernel, rfl, by decide +kernel, by decide +kernel⟩
theorem sc_law : FnScope ["script", "well", "turn", "far", "long", "sizes", "even", "at"] ["script"] (defScope s_law) := ⟨rfl, rfl, rfl, by decide +kernel, rfl, by decide +kernel, by decide +kernel⟩
/-! ### what each def does -/
def g__law_well : G := (retNG (lstN (consF (lstF' (compN (iterF (slF (nameF 0) noPartF (partF (cF (.int 63))))) [1] (setA 1) yesT (opnF intD (consF (nameF 1) nilF)))) (consF (cF (.int 0)) (consF (cF (.int 0)) nilF)))))
def F__law_well : List D → FR := bodyF 2 false g__law_well
def g__law_draw : G := (seqG (ifG (tstF (op2F gtD (ixOwnF 0 (cF (.int 2))) (cF (.int 0))))
    (seqG (asgG (opnF intD (consF (ixOwnF 0 (cF (.int 2))) nilF)) (setA 2))
    (seqG (setIxG 0 (cF (.int 2)) (op2F fdivD (nameF 2) (nameF 1)))
    (retG (op2F modD (opnF intD (consF (nameF 2) nilF)) (nameF 1)))))
    nextG)
    (seqG (asgG (ixOwnF 0 (cF (.int 1))) (setA 3))
    (seqG (setIxG 0 (cF (.int 1)) (op2F addD (nameF 3) (cF (.int 1))))
    (seqG (asgG (op2F addD (op2F mulD (cF (.int 84049)) (nameF 3)) (cF (.int 2045))) (setA 4))
    (seqG (ifG (tstF (op2F neD (ixOwnF 0 (cF (.int 0))) (lstF nilF)))
    (asgG (op2F ixD (ixOwnF 0 (cF (.int 0))) (op2F modD (opnF intD (consF (nameF 3) nilF)) (opnF lenD (consF (ixOwnF 0 (cF (.int 0))) nilF)))) (setA 4))
    nextG)
    (seqG (ifG (andT (tstF (op2F ltD (nameF 3) (opnF lenD (consF (ixOwnF 0 (cF (.int 0))) nilF)))) (tstF (op2F geD (opnF absD (consF (nameF 4) nilF)) (op2F powD (cF (.int 10)) (cF (.int 18))))))
    (seqG (asgG (op2F addD (op2F mulD (cF (.int 2)) (op2F subD (opnF absD (consF (opnF intD (consF (nameF 4) nilF)) nilF)) (op2F powD (cF (.int 10)) (cF (.int 18))))) (opnF intD (consF (op2F ltD (nameF 4) (cF (.int 0))) nilF))) (setA 2))
    (seqG (setIxG 0 (cF (.int 2)) (op2F fdivD (nameF 2) (nameF 1)))
    (retG (op2F modD (opnF intD (consF (nameF 2) nilF)) (nameF 1)))))
    nextG)
    (seqG (asgG (op2F modD (opnF intD (consF (op2F powD (op2F addD (op2F addD (op2F modD (opnF intD (consF (nameF 4) nilF)) (cF (.int 2147483587))) (op2F mulD (cF (.int 5063)) (nameF 3))) (cF (.int 2045))) (cF (.int 5))) nilF)) (cF (.int 2147483563))) (setA 5))
    (seqG (asgG (op2F modD (opnF intD (consF (op2F powD (op2F addD (op2F addD (op2F mulD (nameF 5) (op2F addD (op2F mulD (cF (.int 2)) (nameF 3)) (cF (.int 319)))) (op2F mulD (op2F mulD (cF (.int 84049)) (nameF 3)) (nameF 3))) (cF (.int 5063))) (cF (.int 3))) nilF)) (cF (.int 2147483549))) (setA 5))
    (retG (op2F modD (opnF intD (consF (op2F fdivD (nameF 5) (cF (.int 64))) nilF)) (nameF 1)))))))))))
def F__law_draw : List D → FR := bodyF 6 true g__law_draw
def g__law_one : G := (retG (op2F ixD (nameF 1) (callIoF F__law_draw 2 0 (consF (opnF lenD (consF (nameF 1) nilF)) nilF))))
def F__law_one : List D → FR := bodyF 2 true g__law_one
def g__law_row : G := (seqG (asgG (tupF (consF (callIoF F__law_one 2 0 (consF (lstF (consF (cF (.int 1)) (consF (cF (.int 3)) (consF (cF (.int 20)) (consF (cF (.int 200)) (consF (op2F powD (cF (.int 10)) (cF (.int 5))) (consF (op2F powD (cF (.int 10)) (cF (.int 9))) (consF (op2F powD (cF (.int 10)) (cF (.int 39))) nilF)))))))) nilF)) (consF (callIoF F__law_draw 2 0 (consF (cF (.int 12)) nilF)) nilF))) (seqA 2 (consA (setA 1) (consA (setA 2) nilA))))
    (seqG (asgG (tupF (consF (callIoF F__law_draw 2 0 (consF (cF (.int 4)) nilF)) (consF (callIoF F__law_draw 2 0 (consF (nameF 1) nilF)) nilF))) (seqA 2 (consA (setA 3) (consA (setA 4) nilA))))
    (seqG (ifG (tstF (op2F eqD (nameF 3) (cF (.int 0))))
    (retG (op2F mulD (lstF (consF (nameF 4) nilF)) (nameF 2)))
    nextG)
    (seqG (asgG (ifF (tstF (op2F eqD (nameF 3) (cF (.int 1)))) (lstF' (compN (rng1F (nameF 2)) [6] (setA 6) yesT (callIoF F__law_draw 2 0 (consF (nameF 1) nilF)))) (lstF' (compN (rng1F (nameF 2)) [6] (setA 6) yesT (op2F addD (nameF 4) (callIoF F__law_draw 2 0 (consF (cF (.int 4)) nilF)))))) (setA 5))
    (retG (ifF (tstF (op2F ltD (nameF 3) (cF (.int 3)))) (nameF 5) (op2F addD (nameF 5) (lstF (consF (callIoF F__law_one 2 0 (consF (lstF (consF (op2F powD (cF (.int 10)) (cF (.int 39))) (consF (op2F powD (cF (.int 2)) (cF (.int 24))) (consF (op2F powD (cF (.int 10)) (cF (.int 7))) (consF (cF (.int 15)) (consF (cF (.int 16)) (consF (cF (.int 17)) nilF))))))) nilF)) nilF)))))))))
def F__law_row : List D → FR := bodyF 7 true g__law_row
def g__law_power_b1 : G := (asgG (op2F mulD (cF (.int 2)) (nameF 1)) (setA 1))
def g__law_power : G := (seqG (asgG (cF (.int 1)) (setA 1))
    (seqG (forG (rng1F (nameF 0)) (setA 2) g__law_power_b1)
    (retG (nameF 1))))
def F__law_power : List D → FR := bodyF 3 false g__law_power
def g__law_digits_b1 : G := (parG 1 0 (consF (op2F addD (nameF 1) (cF (.int 1))) (consF (op2F fdivD (nameF 0) (cF (.int 2))) nilF)))
def g__law_digits : G := (seqG (asgG (cF (.int 0)) (setA 1))
    (seqG (whileL (tstF (op2F gtD (nameF 0) (cF (.int 0)))) g__law_digits_b1 1000000)
    (retG (nameF 1))))
def F__law_digits : List D → FR := bodyF 2 false g__law_digits
def g__law_low_b1 : G := (seqG (appG 2 (op2F modD (opnF intD (consF (nameF 0) nilF)) (cF (.int 2))))
    (asgG (op2F fdivD (nameF 0) (cF (.int 2))) (setA 0)))
def g__law_low : G := (seqG (setNG 2 (lstN nilF))
    (seqG (forG (rng1F (nameF 1)) (setA 3) g__law_low_b1)
    (retNG (revLF (nameF 2)))))
def F__law_low : List D → FR := bodyF 4 false g__law_low
def g__law_gamma : G := (seqG (asgG (callF F__law_digits 1 (pickG 1 0 [] [0]) (consF (op2F addD (nameF 0) (cF (.int 1))) nilF) nilF) (setA 1))
    (retG (op2F addD (op2F mulD (lstF (consF (cF (.int 0)) nilF)) (op2F subD (nameF 1) (cF (.int 1)))) (callF F__law_low 2 (pickG 2 0 [] [0, 1]) (consF (op2F addD (nameF 0) (cF (.int 1))) (consF (nameF 1) nilF)) nilF))))
def F__law_gamma : List D → FR := bodyF 2 false g__law_gamma
def g__law_rice : G := (seqG (asgG (op2F fdivD (nameF 0) (callF F__law_power 1 (pickG 1 0 [] [0]) (consF (nameF 1) nilF) nilF)) (setA 2))
    (seqG (asgG (ifF (tstF (op2F ltD (nameF 2) (cF (.int 16)))) (op2F addD (op2F mulD (lstF (consF (cF (.int 1)) nilF)) (nameF 2)) (lstF (consF (cF (.int 0)) nilF))) (op2F addD (op2F mulD (lstF (consF (cF (.int 1)) nilF)) (cF (.int 16))) (callF F__law_gamma 1 (pickG 1 0 [] [0]) (consF (op2F subD (nameF 2) (cF (.int 16))) nilF) nilF))) (setA 3))
    (retG (op2F addD (nameF 3) (callF F__law_low 2 (pickG 2 0 [] [0, 1]) (consF (nameF 0) (consF (nameF 1) nilF)) nilF)))))
def F__law_rice : List D → FR := bodyF 4 false g__law_rice
def g__law_sizes : G := (retNG (compN (rng1F (cF (.int 21))) [1] (setA 1) yesT (opnF sumD (consF (lstF' (compN (iterF (nameF 0)) [2] (setA 2) yesT (opnF lenD (consF (callF F__law_rice 2 (pickG 2 0 [] [0, 1]) (consF (nameF 2) (consF (nameF 1) nilF)) nilF) nilF)))) nilF))))
def F__law_sizes : List D → FR := bodyF 3 false g__law_sizes
def g_is_list : G := (retG (opnF isiD (consF (nameF 0) (consF (tupF (consF (cF (.ty "list")) (consF (cF (.ty "tuple")) nilF))) nilF))))
def F_is_list : List D → FR := bodyF 1 false g_is_list
def g_is_integer : G := (retG (andF (opnF isiD (consF (nameF 0) (consF (cF (.ty "int")) nilF))) (notF (opnF isiD (consF (nameF 0) (consF (cF (.ty "bool")) nilF))))))
def F_is_integer : List D → FR := bodyF 1 false g_is_integer
def g_need_row_b1 : G := (ifG (orT (notT (tstF (callF F_is_integer 1 (pickG 1 0 [] [0]) (consF (nameF 3) nilF) nilF))) (andT (tstF (op2F isNotD (nameF 1) (cF .non))) (tstF (op2F ltD (nameF 3) (nameF 1)))))
    (raG "BadRow" ["at"] (consF (nameF 2) nilF))
    nextG)
def g_need_row : G := (seqG (ifG (notT (tstF (callF F_is_list 1 (pickG 1 0 [] [0]) (consF (nameF 0) nilF) nilF)))
    (raG "BadRow" ["at"] (consF (cF .non) nilF))
    nextG)
    (forG (enumF (nameF 0)) (seqA 2 (consA (setA 2) (consA (setA 3) nilA))) g_need_row_b1))
def F_need_row : List D → FR := bodyF 4 false g_need_row
def g_digits_in_b1 : G := (asgG (op2F addD (nameF 1) (cF (.int 1))) (setA 1))
def g_digits_in : G := (seqG (asgG (cF (.int 0)) (setA 1))
    (seqG (whileL (tstF (op2F gtD (op2F shrD (nameF 0) (nameF 1)) (cF (.int 0)))) g_digits_in_b1 1000000)
    (retG (nameF 1))))
def F_digits_in : List D → FR := bodyF 2 false g_digits_in
def g_gamma_size : G := (retG (op2F subD (op2F mulD (cF (.int 2)) (callF F_digits_in 1 (pickG 1 0 [] [0]) (consF (op2F addD (nameF 0) (cF (.int 1))) nilF) nilF)) (cF (.int 1))))
def F_gamma_size : List D → FR := bodyF 1 false g_gamma_size
def g_size_by : G := (seqG (asgG (op2F shrD (nameF 0) (nameF 1)) (setA 2))
    (retG (op2F addD (nameF 1) (ifF (tstF (op2F ltD (nameF 2) (cF (.int 16)))) (op2F addD (nameF 2) (cF (.int 1))) (op2F addD (cF (.int 16)) (callF F_gamma_size 1 (pickG 1 0 [] [0]) (consF (op2F subD (nameF 2) (cF (.int 16))) nilF) nilF))))))
def F_size_by : List D → FR := bodyF 3 false g_size_by
def g_least_parameter : G := (seqG (setNG 1 (compN (rng1F (op2F addD (cF (.int 20)) (cF (.int 1)))) [2] (setA 2) yesT (opnF sumD (consF (lstF' (compN (iterF (nameF 0)) [3] (setA 3) yesT (callF F_size_by 2 (pickG 2 0 [] [0, 1]) (consF (nameF 3) (consF (nameF 2) nilF)) nilF))) nilF))))
    (retG (tupF (consF (idxF (nameF 1) (opnF minD (consF (nameF 1) nilF))) (consF (opnF minD (consF (nameF 1) nilF)) nilF)))))
def F_least_parameter : List D → FR := bodyF 4 false g_least_parameter
def g_best_parameter : G := (seqG (dropG (callF F_need_row 2 (pickG 2 0 [] [0, 1]) (consF (nameF 0) (consF (cF (.int 0)) nilF)) nilF))
    (retG (op2F ixD (callF F_least_parameter 1 (pickG 1 0 [] [0]) (consF (nameF 0) nilF) nilF) (cF (.int 0)))))
def F_best_parameter : List D → FR := bodyF 1 false g_best_parameter
def g_need_natural : G := (ifG (orT (notT (tstF (callF F_is_integer 1 (pickG 1 0 [] [0]) (consF (nameF 0) nilF) nilF))) (tstF (op2F ltD (nameF 0) (cF (.int 0)))))
    (raG "BadNumber" ["part"] (consF (nameF 1) nilF))
    nextG)
def F_need_natural : List D → FR := bodyF 2 false g_need_natural
def g_is_within : G := (seqG (ifG (notT (tstF (callF F_is_integer 1 (pickG 1 0 [] [0]) (consF (nameF 0) nilF) nilF)))
    (retG (cF (.bl false)))
    nextG)
    (retG (andF (orF (op2F isD (nameF 1) (cF .non)) (op2F geD (nameF 0) (nameF 1))) (orF (op2F isD (nameF 2) (cF .non)) (op2F leD (nameF 0) (nameF 2))))))
def F_is_within : List D → FR := bodyF 3 false g_is_within
def g_need_parameter : G := (ifG (notT (tstF (callF F_is_within 3 (pickG 3 0 [] [0, 1, 2]) (consF (nameF 0) (consF (cF (.int 0)) (consF (cF (.int 20)) nilF))) nilF)))
    (raG "BadNumber" ["part"] (consF (cF (.str "parameter")) nilF))
    nextG)
def F_need_parameter : List D → FR := bodyF 1 false g_need_parameter
def g_rice_size : G := (seqG (dropG (callF F_need_natural 2 (pickG 1 0 [(.str "number")] [0, 1]) (consF (nameF 0) nilF) nilF))
    (seqG (dropG (callF F_need_parameter 1 (pickG 1 0 [] [0]) (consF (nameF 1) nilF) nilF))
    (retG (callF F_size_by 2 (pickG 2 0 [] [0, 1]) (consF (nameF 0) (consF (nameF 1) nilF)) nilF))))
def F_rice_size : List D → FR := bodyF 2 false g_rice_size
def g_lowest_bits : G := (retNG (compN (rng1F (nameF 1)) [2] (setA 2) yesT (op2F bandD (op2F shrD (nameF 0) (op2F subD (op2F subD (nameF 1) (cF (.int 1))) (nameF 2))) (cF (.int 1)))))
def F_lowest_bits : List D → FR := bodyF 3 false g_lowest_bits
def g_gamma_bits : G := (seqG (asgG (callF F_digits_in 1 (pickG 1 0 [] [0]) (consF (op2F addD (nameF 0) (cF (.int 1))) nilF) nilF) (setA 1))
    (retG (op2F addD (op2F mulD (lstF (consF (cF (.int 0)) nilF)) (op2F subD (nameF 1) (cF (.int 1)))) (callF F_lowest_bits 2 (pickG 2 0 [] [0, 1]) (consF (op2F addD (nameF 0) (cF (.int 1))) (consF (nameF 1) nilF)) nilF))))
def F_gamma_bits : List D → FR := bodyF 2 false g_gamma_bits
def g_rice_bits : G := (seqG (asgG (op2F shrD (nameF 0) (nameF 1)) (setA 2))
    (seqG (asgG (ifF (tstF (op2F ltD (nameF 2) (cF (.int 16)))) (op2F addD (op2F mulD (lstF (consF (cF (.int 1)) nilF)) (nameF 2)) (lstF (consF (cF (.int 0)) nilF))) (op2F addD (op2F mulD (lstF (consF (cF (.int 1)) nilF)) (cF (.int 16))) (callF F_gamma_bits 1 (pickG 1 0 [] [0]) (consF (op2F subD (nameF 2) (cF (.int 16))) nilF) nilF))) (setA 3))
    (retG (op2F addD (nameF 3) (callF F_lowest_bits 2 (pickG 2 0 [] [0, 1]) (consF (nameF 0) (consF (nameF 1) nilF)) nilF)))))
def F_rice_bits : List D → FR := bodyF 4 false g_rice_bits
def g_rice : G := (seqG (dropG (callF F_need_natural 2 (pickG 1 0 [(.str "number")] [0, 1]) (consF (nameF 0) nilF) nilF))
    (seqG (dropG (callF F_need_parameter 1 (pickG 1 0 [] [0]) (consF (nameF 1) nilF) nilF))
    (retG (opnF tupleD (consF (callF F_rice_bits 2 (pickG 2 0 [] [0, 1]) (consF (nameF 0) (consF (nameF 1) nilF)) nilF) nilF)))))
def F_rice : List D → FR := bodyF 2 false g_rice
def g__law_right_b1 : G := (seqG (setNG 5 (compN (iterF (nameF 1)) [6] (setA 6) yesT (callF F_rice_size 2 (pickG 2 0 [] [0, 1]) (consF (nameF 6) (consF (nameF 4) nilF)) nilF)))
    (ifG (orT (tstF (op2F neD (opnF reprD (consF (opnF sumD (consF (nameF 5) nilF)) nilF)) (opnF reprD (consF (op2F ixD (nameF 2) (nameF 4)) nilF)))) (tstF (op2F neD (lstF' (compN (zipF (nameF 5) (nameF 1)) [7, 6] (seqA 2 (consA (setA 7) (consA (setA 6) nilA))) (tstF (op2F neD (nameF 7) (opnF lenD (consF (callF F_rice 2 (pickG 2 0 [] [0, 1]) (consF (nameF 6) (consF (nameF 4) nilF)) nilF) nilF)))) (nameF 7))) (lstF nilF))))
    (retG (cF (.bl false)))
    nextG))
def g__law_right : G := (seqG (asgG (callIoF F__law_row 1 0 nilF) (setA 1))
    (seqG (asgG (callF F__law_sizes 1 (pickG 1 0 [] [0]) (consF (nameF 1) nilF) nilF) (setA 2))
    (seqG (asgG (idxF (nameF 2) (opnF minD (consF (nameF 2) nilF))) (setA 3))
    (seqG (ifG (orT (tstF (op2F neD (opnF reprD (consF (callF F_best_parameter 1 (pickG 1 0 [] [0]) (consF (nameF 1) nilF) nilF) nilF)) (opnF reprD (consF (nameF 3) nilF)))) (tstF (op2F neD (opnF reprD (consF (callF F_best_parameter 1 (pickG 0 1 [] [0]) nilF (consF (opnF tupleD (consF (revE (nameF 1)) nilF)) nilF)) nilF)) (opnF reprD (consF (nameF 3) nilF)))))
    (retG (cF (.bl false)))
    nextG)
    (seqG (forG (iterF (tupF (consF (cF (.int 0)) (consF (nameF 3) (consF (cF (.int 20)) (consF (callIoF F__law_draw 2 0 (consF (cF (.int 21)) nilF)) nilF)))))) (setA 4) g__law_right_b1)
    (retG (op2F eqD (callF F_best_parameter 1 (pickG 1 0 [] [0]) (consF (op2F addD (nameF 1) (nameF 1)) nilF) nilF) (nameF 3))))))))
def F__law_right : List D → FR := bodyF 8 true g__law_right
def gp__law_heard : G := (asgG (tupF (consF (cF .non) (consF (cF .non) nilF))) (seqA 2 (consA (setA 1) (consA (setA 2) nilA))))
def gr__law_heard : G := (seqG (ifG (tstF (op1F (isiXD ["BadNumber"] ["BadRow"]) (nameF 2)))
    (retG (tupF (consF (cF (.str "number")) (consF (xfldF ["BadNumber"] "part" (nameF 2)) nilF))))
    nextG)
    (seqG (ifG (tstF (op1F (isiXD [] ["BadNumber", "BadRow"]) (nameF 2)))
    (retG (tupF (consF (cF (.str "bits")) (consF (xfldF ["BadRow"] "at" (nameF 2)) nilF))))
    nextG)
    (seqG (ifG (tstF (op1F (isiXD [] ["BadNumber", "BadRow"]) (nameF 2)))
    (retG (tupF (consF (cF (.str "code")) (consF (xfldF ["BadNumber"] "part" (nameF 2)) nilF))))
    nextG)
    (seqG (ifG (tstF (op1F (isiXD ["BadRow"] ["BadNumber"]) (nameF 2)))
    (retG (tupF (consF (cF (.str "row")) (consF (xfldF ["BadRow"] "at" (nameF 2)) nilF))))
    nextG)
    (seqG (ifG (tstF (op1F (isiXD [] ["BadNumber", "BadRow"]) (nameF 2)))
    (retG (tupF (consF (cF (.str "stream")) (consF (xfldF ["BadRow"] "at" (nameF 2)) nilF))))
    nextG)
    (seqG (ifG (tstF (op1F (isiXD [] ["BadNumber", "BadRow"]) (nameF 2)))
    (retG (tupF (consF (cF (.str "misfit")) (consF (xfldF ["BadNumber"] "part" (nameF 2)) nilF))))
    nextG)
    (seqG (ifG (tstF (op1F (isiXD [] ["BadNumber", "BadRow"]) (nameF 2)))
    (retG (tupF (consF (cF (.str "many")) (consF (xfldF [] "what" (nameF 2)) (consF (xfldF [] "most" (nameF 2)) nilF)))))
    nextG)
    (seqG (ifG (tstF (op1F (isiXD [] ["BadNumber", "BadRow"]) (nameF 2)))
    (retG (tupF (consF (cF (.str "block")) (consF (xfldF [] "value" (nameF 2)) nilF))))
    nextG)
    (retG (ifF (tstF (op2F isD (nameF 2) (cF .non))) (tupF (consF (cF (.str "told")) (consF (nameF 1) nilF))) (ifF (tstF (op1F (isiXD [] ["BadNumber", "BadRow"]) (nameF 2))) (tupF (consF (cF (.str "nothing")) nilF)) (tupF (consF (cF (.str "other")) nilF)))))))))))))
def H__law_heard : D ⊕ XD → Option D := heardD gr__law_heard [.un, .va .non, .va .non, .un] (.found 1) 2 (fun c => decide (c ∈ (["BadNumber", "BadRow"] : List Str)))
def g__law_refused_right : G := (seqG (parG 1 2 (consF (lstF (consF (cF (.int 3)) (consF (cF (.int 0)) (consF (op2F powD (cF (.int 10)) (cF (.int 20))) (consF (cF (.int 7)) nilF))))) (consF (callIoF F__law_draw 2 0 (consF (cF (.int 5)) nilF)) nilF)))
    (seqG (asgG (op2F addD (op2F addD (slF (nameF 1) noPartF (partF (nameF 2))) (lstF (consF (callIoF F__law_one 2 0 (consF (lstF (consF (cF .non) (consF (op1F negD (cF (.int 1))) (consF (cF (.bl true)) (consF (cF (.str "4")) (consF (tupF (consF (cF (.int 1)) nilF)) (consF (op1F negD (op2F powD (cF (.int 10)) (cF (.int 30)))) nilF))))))) nilF)) nilF))) (slF (nameF 1) (partF (nameF 2)) noPartF)) (setA 4))
    (seqG (setNG 3 (lstN (consF (lamF H__law_heard (callF F_best_parameter 1 (pickG 1 0 [] [0]) (consF (nameF 4) nilF) nilF)) nilF)))
    (seqG (appG 3 (lamF H__law_heard (callF F_best_parameter 1 (pickG 1 0 [] [0]) (consF (callIoF F__law_one 2 0 (consF (lstF (consF (cF .non) (consF (cF (.int 5)) (consF (cF (.str "12")) (consF (cF (.dic [] [])) (consF (cF (.bl true)) nilF)))))) nilF)) nilF) nilF)))
    (retG (op2F eqD (nameF 3) (lstF (consF (tupF (consF (cF (.str "row")) (consF (nameF 2) nilF))) (consF (tupF (consF (cF (.str "row")) (consF (cF .non) nilF))) nilF)))))))))
def F__law_refused_right : List D → FR := bodyF 5 true g__law_refused_right
def g_law_b1 : G := (ifG (orT (notT (tstF (callIoF F__law_right 1 1 nilF))) (notT (tstF (callIoF F__law_refused_right 1 1 nilF))))
    (retG (cF (.bl false)))
    nextG)
def g_law : G := (seqG (setNG 1 (callN F__law_well 1 (pickG 1 0 [] [0]) (consF (nameF 0) nilF) nilF))
    (seqG (forG (rng1F (cF (.int 5))) (setA 2) g_law_b1)
    (seqG (asgG (op2F addD (cF (.int 20)) (callIoF F__law_draw 2 1 (consF (cF (.int 5000)) nilF))) (setA 3))
    (seqG (setNG 4 (compN (rng1F (op2F addD (cF (.int 60)) (callIoF F__law_draw 2 1 (consF (cF (.int 200)) nilF)))) [7] (setA 7) yesT (op2F modD (opnF intD (consF (op2F addD (op2F mulD (op2F mulD (nameF 7) (nameF 7)) (cF (.int 7919))) (nameF 7)) nilF)) (nameF 3))))
    (seqG (asgG (callF F__law_sizes 1 (pickG 1 0 [] [0]) (consF (nameF 4) nilF) nilF) (setA 5))
    (seqG (ifG (tstF (op2F neD (callF F_best_parameter 1 (pickG 1 0 [] [0]) (consF (lstF' (opnN listN (consF (nameF 4) nilF))) nilF) nilF) (idxF (nameF 5) (opnF minD (consF (nameF 5) nilF)))))
    (retG (cF (.bl false)))
    nextG)
    (seqG (asgG (op2F addD (cF (.int 2)) (callIoF F__law_draw 2 1 (consF (cF (.int 17)) nilF))) (setA 6))
    (retG (andF (op2F eqD (callF F_best_parameter 1 (pickG 1 0 [] [0]) (consF (tupF nilF) nilF) nilF) (cF (.int 0))) (andF (op2F eqD (callF F_best_parameter 1 (pickG 1 0 [] [0]) (consF (lstF (consF (callF F__law_power 1 (pickG 1 0 [] [0]) (consF (nameF 6) nilF) nilF) nilF)) nilF) nilF) (op2F subD (nameF 6) (cF (.int 1)))) (andF (op2F eqD (callF F_best_parameter 1 (pickG 1 0 [] [0]) (consF (lstF (consF (cF (.int 1)) nilF)) nilF) nilF) (cF (.int 0))) (op2F eqD (callF F_best_parameter 1 (pickG 1 0 [] [0]) (consF (lstF (consF (op2F powD (cF (.int 2)) (cF (.int 30))) nilF)) nilF) nilF) (cF (.int 20))))))))))))))
def F_law : List D → FR := bodyF 8 false g_law
end Fx

set_option Elab.async false
set_option linter.all false
set_option maxRecDepth 100000
set_option maxHeartbeats 4000000
namespace Fx
variable [Tbl]
open PySem L2 PyProof.Rows
/-! ### what the text holds -/
structure Txt (P : Program) (K : PySem.W.Frag) (mg : Str → Option Value) (base : Heap) : Prop where
  kb : K.In base
  a__law_well : FunAt K mg "_law_well" s__law_well
  a__law_draw : FunAt K mg "_law_draw" s__law_draw
  a__law_one : FunAt K mg "_law_one" s__law_one
  a__law_row : FunAt K mg "_law_row" s__law_row
  a__law_power : FunAt K mg "_law_power" s__law_power
  a__law_digits : FunAt K mg "_law_digits" s__law_digits
  a__law_low : FunAt K mg "_law_low" s__law_low
  a__law_gamma : FunAt K mg "_law_gamma" s__law_gamma
  a__law_rice : FunAt K mg "_law_rice" s__law_rice
  a__law_sizes : FunAt K mg "_law_sizes" s__law_sizes
  a_is_list : FunAt K mg "is_list" s_is_list
  a_is_integer : FunAt K mg "is_integer" s_is_integer
  a_need_row : FunAt K mg "need_row" s_need_row
  a_digits_in : FunAt K mg "digits_in" s_digits_in
  a_gamma_size : FunAt K mg "gamma_size" s_gamma_size
  a_size_by : FunAt K mg "size_by" s_size_by
  a_least_parameter : FunAt K mg "least_parameter" s_least_parameter
  a_best_parameter : FunAt K mg "best_parameter" s_best_parameter
  a_need_natural : FunAtD K mg "need_natural" s_need_natural [(.str "number")]
  a_is_within : FunAt K mg "is_within" s_is_within
  a_need_parameter : FunAt K mg "need_parameter" s_need_parameter
  a_rice_size : FunAt K mg "rice_size" s_rice_size
  a_lowest_bits : FunAt K mg "lowest_bits" s_lowest_bits
  a_gamma_bits : FunAt K mg "gamma_bits" s_gamma_bits
  a_rice_bits : FunAt K mg "rice_bits" s_rice_bits
  a_rice : FunAt K mg "rice" s_rice
  a__law_right : FunAt K mg "_law_right" s__law_right
  a__law_heard : FunAt K mg "_law_heard" s__law_heard
  a__law_refused_right : FunAtL K mg base "_law_refused_right" s__law_refused_right ((envOfC "_law_refused_right" (defScope s__law_refused_right) 0 0 .none).qual ++ "<lambda>")
  a_law : FunAt K mg "law" s_law
  z_abs : mg "abs" = none
  z_bool : mg "bool" = none
  z_enumerate : mg "enumerate" = none
  z_int : mg "int" = none
  z_isinstance : mg "isinstance" = none
  z_len : mg "len" = none
  z_list : mg "list" = none
  z_min : mg "min" = none
  z_range : mg "range" = none
  z_repr : mg "repr" = none
  z_sum : mg "sum" = none
  z_tuple : mg "tuple" = none
  z_zip : mg "zip" = none
  c_MOST_ONES : Cn K mg "MOST_ONES" (.int 16)
  c_MOST_PARAMETER : Cn K mg "MOST_PARAMETER" (.int 20)
  r_BadNumber : XAt P K mg "BadNumber" "BadNumber.__init__" sx_BadNumber ["part"]
  r_BadRow : XAt P K mg "BadRow" "BadRow.__init__" sx_BadRow ["at"]
  x_BadBits : IsiX K mg "BadBits" [] ["BadNumber", "BadRow"]
  x_BadBlock : IsiX K mg "BadBlock" [] ["BadNumber", "BadRow"]
  x_BadCode : IsiX K mg "BadCode" [] ["BadNumber", "BadRow"]
  x_BadNumber : IsiX K mg "BadNumber" ["BadNumber"] ["BadRow"]
  x_BadRow : IsiX K mg "BadRow" ["BadRow"] ["BadNumber"]
  x_BadStream : IsiX K mg "BadStream" [] ["BadNumber", "BadRow"]
  x_Misfit : IsiX K mg "Misfit" [] ["BadNumber", "BadRow"]
  x_Nothing : IsiX K mg "Nothing" [] ["BadNumber", "BadRow"]
  x_TooMany : IsiX K mg "TooMany" [] ["BadNumber", "BadRow"]
  e_SaveError : ExmAll K mg "SaveError" ["BadNumber", "BadRow"]
  f_BadNumber_part : XFld K "BadNumber" "part"
  f_BadRow_at : XFld K "BadRow" "at"
section
variable {P : Program} {w : World} {K : PySem.W.Frag} {mg : Str → Option Value} {base : Heap}
theorem kx_BadNumber (T : Txt P K mg base) : XKn P w K mg base "BadNumber" ["part"] := T.r_BadNumber.one (sf := "self") T.kb (xsc_by (N := ["self", "part"]) (by decide +kernel)) rfl ⟨_, rfl, rfl⟩ (fun _ _ _ _ _ _ _ us h => match us, h with | [_, _], _ => rfl)
theorem kx_BadRow (T : Txt P K mg base) : XKn P w K mg base "BadRow" ["at"] := T.r_BadRow.one (sf := "self") T.kb (xsc_by (N := ["self", "at"]) (by decide +kernel)) rfl ⟨_, rfl, rfl⟩ (fun _ _ _ _ _ _ _ us h => match us, h with | [_, _], _ => rfl)
theorem kn__law_well (T : Txt P K mg base) : Kn P w K mg base "_law_well" "_law_well" s__law_well 1 false ["script"] F__law_well := .of (g := g__law_well) T.a__law_well sc__law_well rfl fun f cdv A outer s H E hr hgd B hB =>
    (ss_one (ss_retN (sn_lst (sa_cons (se_new (sn_lc (own := [("cell", 1)]) rfl sc__law_well.nd (si_seq hB.symm (se_sl hB.symm (se_name 0) so_none (so_some se_int))) (blkOk_by (own := [("cell", 1)]) (by rfl)) (fun _ _ _ _ _ B1 h1 => (sg_name sc__law_well.nd (i := 1) rfl (by first | exact .inl rfl | exact .inr rfl))) (fun _ _ _ _ _ B1 h1 => sts_nil) (fun _ _ _ _ _ B1 h1 => (se_T (h1.trans hB).symm c_int bt_int T.z_int (sa_cons (se_name 1) sa_nil))) (by decide))) (sa_cons se_int (sa_cons se_int sa_nil))))))
theorem kn__law_draw (T : Txt P K mg base) : Kn P w K mg base "_law_draw" "_law_draw" s__law_draw 1 true ["well", "many"] F__law_draw := .of (g := g__law_draw) T.a__law_draw sc__law_draw rfl fun f cdv A outer s H E hr hgd B hB =>
    (ss_cons (ss_if (st_C hB.symm op_gtD (se_ixOwn 0 hB.symm se_int) se_int)
    (ss_cons (ss_set (i := 2) sc__law_draw.nd rfl (.inl rfl) (se_T hB.symm c_int bt_int T.z_int (sa_cons (se_ixOwn 0 hB.symm se_int) sa_nil)))
    (ss_cons (ss_setIx 0 hB.symm se_int (se_O hB.symm op_fdivD (se_name 2) (se_name 1)))
    (ss_one (ss_ret (se_O hB.symm op_modD (se_T hB.symm c_int bt_int T.z_int (sa_cons (se_name 2) sa_nil)) (se_name 1))))))
    ss_nil)
    (ss_cons (ss_set (i := 3) sc__law_draw.nd rfl (.inl rfl) (se_ixOwn 0 hB.symm se_int))
    (ss_cons (ss_setIx 0 hB.symm se_int (se_O hB.symm op_addD (se_name 3) se_int))
    (ss_cons (ss_set (i := 4) sc__law_draw.nd rfl (.inl rfl) (se_O hB.symm op_addD (se_O hB.symm op_mulD se_int (se_name 3)) se_int))
    (ss_cons (ss_if (st_C hB.symm (op_neDD hr.units) (se_ixOwn 0 hB.symm se_int) (se_lst sa_nil))
    (ss_one (ss_set (i := 4) sc__law_draw.nd rfl (.inl rfl) (se_ix hB.symm (se_ixOwn 0 hB.symm se_int) (se_O hB.symm op_modD (se_T hB.symm c_int bt_int T.z_int (sa_cons (se_name 3) sa_nil)) (se_B hB.symm c_len bt_len T.z_len (sa_cons (se_ixOwn 0 hB.symm se_int) sa_nil))))))
    ss_nil)
    (ss_cons (ss_if (SW.st (sw_and (st_C hB.symm op_ltD (se_name 3) (se_B hB.symm c_len bt_len T.z_len (sa_cons (se_ixOwn 0 hB.symm se_int) sa_nil))) (sw_and1 (st_C hB.symm op_geD (se_B hB.symm c_abs bt_abs T.z_abs (sa_cons (se_name 4) sa_nil)) (se_O hB.symm op_powD se_int se_int)))))
    (ss_cons (ss_set (i := 2) sc__law_draw.nd rfl (.inl rfl) (se_O hB.symm op_addD (se_O hB.symm op_mulD se_int (se_O hB.symm op_subD (se_B hB.symm c_abs bt_abs T.z_abs (sa_cons (se_T hB.symm c_int bt_int T.z_int (sa_cons (se_name 4) sa_nil)) sa_nil)) (se_O hB.symm op_powD se_int se_int))) (se_T hB.symm c_int bt_int T.z_int (sa_cons (se_C hB.symm op_ltD (se_name 4) se_int) sa_nil))))
    (ss_cons (ss_setIx 0 hB.symm se_int (se_O hB.symm op_fdivD (se_name 2) (se_name 1)))
    (ss_one (ss_ret (se_O hB.symm op_modD (se_T hB.symm c_int bt_int T.z_int (sa_cons (se_name 2) sa_nil)) (se_name 1))))))
    ss_nil)
    (ss_cons (ss_set (i := 5) sc__law_draw.nd rfl (.inl rfl) (se_O hB.symm op_modD (se_T hB.symm c_int bt_int T.z_int (sa_cons (se_O hB.symm op_powD (se_O hB.symm op_addD (se_O hB.symm op_addD (se_O hB.symm op_modD (se_T hB.symm c_int bt_int T.z_int (sa_cons (se_name 4) sa_nil)) se_int) (se_O hB.symm op_mulD se_int (se_name 3))) se_int) se_int) sa_nil)) se_int))
    (ss_cons (ss_set (i := 5) sc__law_draw.nd rfl (.inl rfl) (se_O hB.symm op_modD (se_T hB.symm c_int bt_int T.z_int (sa_cons (se_O hB.symm op_powD (se_O hB.symm op_addD (se_O hB.symm op_addD (se_O hB.symm op_mulD (se_name 5) (se_O hB.symm op_addD (se_O hB.symm op_mulD se_int (se_name 3)) se_int)) (se_O hB.symm op_mulD (se_O hB.symm op_mulD se_int (se_name 3)) (se_name 3))) se_int) se_int) sa_nil)) se_int))
    (ss_one (ss_ret (se_O hB.symm op_modD (se_T hB.symm c_int bt_int T.z_int (sa_cons (se_O hB.symm op_fdivD (se_name 5) se_int) sa_nil)) (se_name 1))))))))))))
theorem kn__law_one (T : Txt P K mg base) : Kn P w K mg base "_law_one" "_law_one" s__law_one 2 true ["well", "some"] F__law_one := .of (g := g__law_one) T.a__law_one sc__law_one rfl fun f cdv A outer s H E hr hgd B hB =>
    (ss_one (ss_ret (se_ix hB.symm (se_name 1) (se_callIo 0 ((kn__law_draw T).dnIo ⟨rfl, rfl, rfl, rfl, rfl⟩ hB hr (by decide) hgd (by rfl) (takes_of rfl rfl rfl rfl) (by decide) (fun _ _ _ _ _ _ us ws h1 h2 => match us, ws, h1, h2 with | [_, _], [], _, _ => rfl)) (sa_cons (se_B hB.symm c_len bt_len T.z_len (sa_cons (se_name 1) sa_nil)) sa_nil)))))
theorem kn__law_row (T : Txt P K mg base) : Kn P w K mg base "_law_row" "_law_row" s__law_row 3 true ["well"] F__law_row := .of (g := g__law_row) T.a__law_row sc__law_row rfl fun f cdv A outer s H E hr hgd B hB =>
    (ss_cons (ss_asg (se_tup (sa_cons (se_callIo 0 ((kn__law_one T).dnIo ⟨rfl, rfl, rfl, rfl, rfl⟩ hB hr (by decide) hgd (by rfl) (takes_of rfl rfl rfl rfl) (by decide) (fun _ _ _ _ _ _ us ws h1 h2 => match us, ws, h1, h2 with | [_, _], [], _, _ => rfl)) (sa_cons (se_lst (sa_cons se_int (sa_cons se_int (sa_cons se_int (sa_cons se_int (sa_cons (se_O hB.symm op_powD se_int se_int) (sa_cons (se_O hB.symm op_powD se_int se_int) (sa_cons (se_O hB.symm op_powD se_int se_int) sa_nil)))))))) sa_nil)) (sa_cons (se_callIo 0 ((kn__law_draw T).dnIo ⟨rfl, rfl, rfl, rfl, rfl⟩ hB hr (by decide) hgd (by rfl) (takes_of rfl rfl rfl rfl) (by decide) (fun _ _ _ _ _ _ us ws h1 h2 => match us, ws, h1, h2 with | [_, _], [], _, _ => rfl)) (sa_cons se_int sa_nil)) sa_nil))) (sg_tup rfl hB.symm (sgs_cons (sg_name sc__law_row.nd (i := 1) rfl (.inr rfl)) (sgs_cons (sg_name sc__law_row.nd (i := 2) rfl (.inl rfl)) sgs_nil))))
    (ss_cons (ss_asg (se_tup (sa_cons (se_callIo 0 ((kn__law_draw T).dnIo ⟨rfl, rfl, rfl, rfl, rfl⟩ hB hr (by decide) hgd (by rfl) (takes_of rfl rfl rfl rfl) (by decide) (fun _ _ _ _ _ _ us ws h1 h2 => match us, ws, h1, h2 with | [_, _], [], _, _ => rfl)) (sa_cons se_int sa_nil)) (sa_cons (se_callIo 0 ((kn__law_draw T).dnIo ⟨rfl, rfl, rfl, rfl, rfl⟩ hB hr (by decide) hgd (by rfl) (takes_of rfl rfl rfl rfl) (by decide) (fun _ _ _ _ _ _ us ws h1 h2 => match us, ws, h1, h2 with | [_, _], [], _, _ => rfl)) (sa_cons (se_name 1) sa_nil)) sa_nil))) (sg_tup rfl hB.symm (sgs_cons (sg_name sc__law_row.nd (i := 3) rfl (.inl rfl)) (sgs_cons (sg_name sc__law_row.nd (i := 4) rfl (.inr rfl)) sgs_nil))))
    (ss_cons (ss_if (st_C hB.symm (op_eqDD hr.units) (se_name 3) se_int)
    (ss_one (ss_ret (se_O hB.symm op_mulD (se_lst (sa_cons (se_name 4) sa_nil)) (se_name 2))))
    ss_nil)
    (ss_cons (ss_set (i := 5) sc__law_row.nd rfl (.inl rfl) (se_if (st_C hB.symm (op_eqDD hr.units) (se_name 3) se_int) (se_new (sn_lc (own := [("turn", 6)]) rfl sc__law_row.nd (si_rng1 (by rfl) T.z_range (se_name 2)) (blkOk_by (own := [("turn", 6)]) (by rfl)) (fun _ _ _ _ _ B1 h1 => (sg_name sc__law_row.nd (i := 6) rfl (by first | exact .inl rfl | exact .inr rfl))) (fun _ _ _ _ _ B1 h1 => sts_nil) (fun _ _ _ _ _ B1 h1 => (se_callIo 0 ((kn__law_draw T).dnIo ⟨rfl, rfl, rfl, rfl, rfl⟩ (h1.trans hB) hr (by decide) hgd (by rfl) takes0 (by decide) (fun _ _ _ _ _ _ us ws h1 h2 => match us, ws, h1, h2 with | [_, _], [], _, _ => rfl)) (sa_cons (se_name 1) sa_nil))) (by decide))) (se_new (sn_lc (own := [("turn", 6)]) rfl sc__law_row.nd (si_rng1 (by rfl) T.z_range (se_name 2)) (blkOk_by (own := [("turn", 6)]) (by rfl)) (fun _ _ _ _ _ B1 h1 => (sg_name sc__law_row.nd (i := 6) rfl (by first | exact .inl rfl | exact .inr rfl))) (fun _ _ _ _ _ B1 h1 => sts_nil) (fun _ _ _ _ _ B1 h1 => (se_O (h1.trans hB).symm op_addD (se_name 4) (se_callIo 0 ((kn__law_draw T).dnIo ⟨rfl, rfl, rfl, rfl, rfl⟩ (h1.trans hB) hr (by decide) hgd (by rfl) takes0 (by decide) (fun _ _ _ _ _ _ us ws h1 h2 => match us, ws, h1, h2 with | [_, _], [], _, _ => rfl)) (sa_cons se_int sa_nil)))) (by decide)))))
    (ss_one (ss_ret (se_if (st_C hB.symm op_ltD (se_name 3) se_int) (se_name 5) (se_O hB.symm op_addD (se_name 5) (se_lst (sa_cons (se_callIo 0 ((kn__law_one T).dnIo ⟨rfl, rfl, rfl, rfl, rfl⟩ hB hr (by decide) hgd (by rfl) (takes_of rfl rfl rfl rfl) (by decide) (fun _ _ _ _ _ _ us ws h1 h2 => match us, ws, h1, h2 with | [_, _], [], _, _ => rfl)) (sa_cons (se_lst (sa_cons (se_O hB.symm op_powD se_int se_int) (sa_cons (se_O hB.symm op_powD se_int se_int) (sa_cons (se_O hB.symm op_powD se_int se_int) (sa_cons se_int (sa_cons se_int (sa_cons se_int sa_nil))))))) sa_nil)) sa_nil))))))))))
theorem kn__law_power (T : Txt P K mg base) : Kn P w K mg base "_law_power" "_law_power" s__law_power 1 false ["many"] F__law_power := .of (g := g__law_power) T.a__law_power sc__law_power rfl fun f cdv A outer s H E hr hgd B hB =>
    (ss_cons (ss_set (i := 1) sc__law_power.nd rfl (.inl rfl) se_int)
    (ss_cons (ss_for (passes_of rfl) rfl (si_rng1 (by rfl) T.z_range (se_name 0)) (sg_name sc__law_power.nd (i := 2) rfl (.inl rfl))
    (ss_one (ss_set (i := 1) sc__law_power.nd rfl (.inl rfl) (se_O hB.symm op_mulD se_int (se_name 1)))))
    (ss_one (ss_ret (se_name 1)))))
theorem kn__law_digits (T : Txt P K mg base) : Kn P w K mg base "_law_digits" "_law_digits" s__law_digits 1 false ["number"] F__law_digits := .of (g := g__law_digits) T.a__law_digits sc__law_digits rfl fun f cdv A outer s H E hr hgd B hB =>
    (ss_cons (ss_set (i := 1) sc__law_digits.nd rfl (.inl rfl) se_int)
    (ss_cons (ss_while 1000000 (passes_of rfl) (st_C hB.symm op_gtD (se_name 0) se_int)
    (ss_one (ss_par (i := 1) (j := 0) rfl sc__law_digits.nd rfl rfl (by decide) rfl rfl (sa_cons (se_O hB.symm op_addD (se_name 1) se_int) (sa_cons (se_O hB.symm op_fdivD (se_name 0) se_int) sa_nil)) (by rfl))))
    (ss_one (ss_ret (se_name 1)))))
theorem kn__law_low (T : Txt P K mg base) : Kn P w K mg base "_law_low" "_law_low" s__law_low 1 false ["number", "many"] F__law_low := .of (g := g__law_low) T.a__law_low sc__law_low rfl fun f cdv A outer s H E hr hgd B hB =>
    (ss_cons (ss_setN (i := 2) sc__law_low.nd rfl (.inl rfl) (sn_lst sa_nil))
    (ss_cons (ss_for (passes_of rfl) rfl (si_rng1 (by rfl) T.z_range (se_name 1)) (sg_name sc__law_low.nd (i := 3) rfl (.inl rfl))
    (ss_cons (ss_app 2 hB.symm (ps_expr (pe_bm PySem.F.plainAttrs_list PySem.F.slot_list_append PySem.F.type_list_append mt_append (pv 2) (pa_cons (se_O hB.symm op_modD (se_T hB.symm c_int bt_int T.z_int (sa_cons (se_name 0) sa_nil)) se_int) pa_nil))))
    (ss_one (ss_set (i := 0) sc__law_low.nd rfl (.inl rfl) (se_O hB.symm op_fdivD (se_name 0) se_int)))))
    (ss_one (ss_retN (sn_revL hB.symm (se_name 2))))))
theorem kn__law_gamma (T : Txt P K mg base) : Kn P w K mg base "_law_gamma" "_law_gamma" s__law_gamma 2 false ["number"] F__law_gamma := .of (g := g__law_gamma) T.a__law_gamma sc__law_gamma rfl fun f cdv A outer s H E hr hgd B hB =>
    (ss_cons (ss_set (i := 1) sc__law_gamma.nd rfl (.inl rfl) (se_call ((kn__law_digits T).dn (n1 := 1) (ks := []) (idx := [0]) ⟨rfl, rfl, rfl, rfl, rfl⟩ hB hr (by decide) hgd (by rfl) (takes_of rfl rfl rfl rfl) (by decide) (fun _ _ _ _ _ _ us ws h1 h2 => match us, ws, h1, h2 with | [_], [], _, _ => rfl)) (sa_cons (se_O hB.symm op_addD (se_name 0) se_int) sa_nil)))
    (ss_one (ss_ret (se_O hB.symm op_addD (se_O hB.symm op_mulD (se_lst (sa_cons se_int sa_nil)) (se_O hB.symm op_subD (se_name 1) se_int)) (se_call ((kn__law_low T).dn (n1 := 2) (ks := []) (idx := [0, 1]) ⟨rfl, rfl, rfl, rfl, rfl⟩ hB hr (by decide) hgd (by rfl) (takes_of rfl rfl rfl rfl) (by decide) (fun _ _ _ _ _ _ us ws h1 h2 => match us, ws, h1, h2 with | [_, _], [], _, _ => rfl)) (sa_cons (se_O hB.symm op_addD (se_name 0) se_int) (sa_cons (se_name 1) sa_nil)))))))
theorem kn__law_rice (T : Txt P K mg base) : Kn P w K mg base "_law_rice" "_law_rice" s__law_rice 3 false ["number", "parameter"] F__law_rice := .of (g := g__law_rice) T.a__law_rice sc__law_rice rfl fun f cdv A outer s H E hr hgd B hB =>
    (ss_cons (ss_set (i := 2) sc__law_rice.nd rfl (.inl rfl) (se_O hB.symm op_fdivD (se_name 0) (se_call ((kn__law_power T).dn (n1 := 1) (ks := []) (idx := [0]) ⟨rfl, rfl, rfl, rfl, rfl⟩ hB hr (by decide) hgd (by rfl) (takes_of rfl rfl rfl rfl) (by decide) (fun _ _ _ _ _ _ us ws h1 h2 => match us, ws, h1, h2 with | [_], [], _, _ => rfl)) (sa_cons (se_name 1) sa_nil))))
    (ss_cons (ss_set (i := 3) sc__law_rice.nd rfl (.inl rfl) (se_if (st_C hB.symm op_ltD (se_name 2) se_int) (se_O hB.symm op_addD (se_O hB.symm op_mulD (se_lst (sa_cons se_int sa_nil)) (se_name 2)) (se_lst (sa_cons se_int sa_nil))) (se_O hB.symm op_addD (se_O hB.symm op_mulD (se_lst (sa_cons se_int sa_nil)) se_int) (se_call ((kn__law_gamma T).dn (n1 := 1) (ks := []) (idx := [0]) ⟨rfl, rfl, rfl, rfl, rfl⟩ hB hr (by decide) hgd (by rfl) (takes_of rfl rfl rfl rfl) (by decide) (fun _ _ _ _ _ _ us ws h1 h2 => match us, ws, h1, h2 with | [_], [], _, _ => rfl)) (sa_cons (se_O hB.symm op_subD (se_name 2) se_int) sa_nil)))))
    (ss_one (ss_ret (se_O hB.symm op_addD (se_name 3) (se_call ((kn__law_low T).dn (n1 := 2) (ks := []) (idx := [0, 1]) ⟨rfl, rfl, rfl, rfl, rfl⟩ hB hr (by decide) hgd (by rfl) (takes_of rfl rfl rfl rfl) (by decide) (fun _ _ _ _ _ _ us ws h1 h2 => match us, ws, h1, h2 with | [_, _], [], _, _ => rfl)) (sa_cons (se_name 0) (sa_cons (se_name 1) sa_nil))))))))
theorem kn__law_sizes (T : Txt P K mg base) : Kn P w K mg base "_law_sizes" "_law_sizes" s__law_sizes 4 false ["row"] F__law_sizes := .of (g := g__law_sizes) T.a__law_sizes sc__law_sizes rfl fun f cdv A outer s H E hr hgd B hB =>
    (ss_one (ss_retN (sn_lc (own := [("parameter", 1)]) rfl sc__law_sizes.nd (si_rng1 (by rfl) T.z_range se_int) (blkOk_by (own := [("parameter", 1)]) (by rfl)) (fun _ _ _ _ _ B1 h1 => (sg_name sc__law_sizes.nd (i := 1) rfl (by first | exact .inl rfl | exact .inr rfl))) (fun _ _ _ _ _ B1 h1 => sts_nil) (fun _ _ _ _ _ B1 h1 => (se_B (h1.trans hB).symm (c_sum rfl) bt_sum T.z_sum (sa_cons (se_new (sn_lc (own := [("number", 2)]) rfl sc__law_sizes.nd (si_seq (h1.trans hB).symm (se_name 0)) (blkOk_by (own := [("number", 2)]) (by rfl)) (fun _ _ _ _ _ B2 h2 => (sg_name sc__law_sizes.nd (i := 2) rfl (by first | exact .inl rfl | exact .inr rfl))) (fun _ _ _ _ _ B2 h2 => sts_nil) (fun _ _ _ _ _ B2 h2 => by exact (se_B (h2.trans (h1.trans hB)).symm c_len bt_len T.z_len (sa_cons (se_call ((kn__law_rice T).dn (n1 := 2) (ks := []) (idx := [0, 1]) ⟨rfl, rfl, rfl, rfl, rfl⟩ (h2.trans (h1.trans hB)) hr (by decide) hgd (by rfl) takes0 (by decide) (fun _ _ _ _ _ _ us ws h1 h2 => match us, ws, h1, h2 with | [_, _], [], _, _ => rfl)) (sa_cons (se_name 2) (sa_cons (se_name 1) sa_nil))) sa_nil))) (by decide))) sa_nil))) (by decide))))
theorem kn_is_list (T : Txt P K mg base) : Kn P w K mg base "is_list" "is_list" s_is_list 1 false ["value"] F_is_list := .of (g := g_is_list) T.a_is_list sc_is_list rfl fun f cdv A outer s H E hr hgd B hB =>
    (ss_one (ss_ret (se_B hB.symm c_isi bt_isinstance T.z_isinstance (sa_cons (se_name 0) (sa_cons (se_tup (sa_cons (se_bltn (n := "list") (by rfl) T.z_list bt_list) (sa_cons (se_bltn (n := "tuple") (by rfl) T.z_tuple bt_tuple) sa_nil))) sa_nil)))))
theorem kn_is_integer (T : Txt P K mg base) : Kn P w K mg base "is_integer" "is_integer" s_is_integer 1 false ["value"] F_is_integer := .of (g := g_is_integer) T.a_is_integer sc_is_integer rfl fun f cdv A outer s H E hr hgd B hB =>
    (ss_one (ss_ret (se_and (se_B hB.symm c_isi bt_isinstance T.z_isinstance (sa_cons (se_name 0) (sa_cons (se_bltn (n := "int") (by rfl) T.z_int bt_int) sa_nil))) (se_one (se_not (se_B hB.symm c_isi bt_isinstance T.z_isinstance (sa_cons (se_name 0) (sa_cons (se_bltn (n := "bool") (by rfl) T.z_bool bt_bool) sa_nil))))))))
theorem kn_need_row (T : Txt P K mg base) : Kn P w K mg base "need_row" "need_row" s_need_row 3 false ["row", "least"] F_need_row := .of (g := g_need_row) T.a_need_row sc_need_row rfl fun f cdv A outer s H E hr hgd B hB =>
    (ss_cons (ss_if (st_not (st_val (se_call ((kn_is_list T).dn (n1 := 1) (ks := []) (idx := [0]) ⟨rfl, rfl, rfl, rfl, rfl⟩ hB hr (by decide) hgd (by rfl) (takes_of rfl rfl rfl rfl) (by decide) (fun _ _ _ _ _ _ us ws h1 h2 => match us, ws, h1, h2 with | [_], [], _, _ => rfl)) (sa_cons (se_name 0) sa_nil))))
    (ss_one (ss_raise ((kx_BadRow T).dn ⟨rfl, rfl, rfl, rfl, rfl⟩ hr (by decide) (by rfl) (takes_of rfl rfl rfl rfl)) (by decide) rfl hB.symm (passes_call (takes_of rfl rfl rfl rfl) (fun _ _ _ _ z => False.elim z)) (sa_cons se_non sa_nil)))
    ss_nil)
    (ss_one (ss_for (passes_of rfl) rfl (si_enum hB.symm (by rfl) T.z_enumerate (se_name 0)) (sg_tup rfl hB.symm (sgs_cons (sg_name sc_need_row.nd (i := 2) rfl (.inl rfl)) (sgs_cons (sg_name sc_need_row.nd (i := 3) rfl (.inl rfl)) sgs_nil)))
    (ss_one (ss_if (SW.st (sw_or (st_not (st_val (se_call ((kn_is_integer T).dn (n1 := 1) (ks := []) (idx := [0]) ⟨rfl, rfl, rfl, rfl, rfl⟩ hB hr (by decide) hgd (by rfl) (takes_of rfl rfl rfl rfl) (by decide) (fun _ _ _ _ _ _ us ws h1 h2 => match us, ws, h1, h2 with | [_], [], _, _ => rfl)) (sa_cons (se_name 3) sa_nil)))) (sw_or1 (SW.st (sw_and (st_C hB.symm op_isNotD (se_name 1) se_non) (sw_and1 (st_C hB.symm op_ltD (se_name 3) (se_name 1))))))))
    (ss_one (ss_raise ((kx_BadRow T).dn ⟨rfl, rfl, rfl, rfl, rfl⟩ hr (by decide) (by rfl) (takes_of rfl rfl rfl rfl)) (by decide) rfl hB.symm (passes_call (takes_of rfl rfl rfl rfl) (fun _ _ _ _ z => False.elim z)) (sa_cons (se_name 2) sa_nil)))
    ss_nil)))))
theorem kn_digits_in (T : Txt P K mg base) : Kn P w K mg base "digits_in" "digits_in" s_digits_in 1 false ["number"] F_digits_in := .of (g := g_digits_in) T.a_digits_in sc_digits_in rfl fun f cdv A outer s H E hr hgd B hB =>
    (ss_cons (ss_set (i := 1) sc_digits_in.nd rfl (.inl rfl) se_int)
    (ss_cons (ss_while 1000000 (passes_of rfl) (st_C hB.symm op_gtD (se_O hB.symm op_shrD (se_name 0) (se_name 1)) se_int)
    (ss_one (ss_set (i := 1) sc_digits_in.nd rfl (.inl rfl) (se_O hB.symm op_addD (se_name 1) se_int))))
    (ss_one (ss_ret (se_name 1)))))
theorem kn_gamma_size (T : Txt P K mg base) : Kn P w K mg base "gamma_size" "gamma_size" s_gamma_size 2 false ["number"] F_gamma_size := .of (g := g_gamma_size) T.a_gamma_size sc_gamma_size rfl fun f cdv A outer s H E hr hgd B hB =>
    (ss_one (ss_ret (se_O hB.symm op_subD (se_O hB.symm op_mulD se_int (se_call ((kn_digits_in T).dn (n1 := 1) (ks := []) (idx := [0]) ⟨rfl, rfl, rfl, rfl, rfl⟩ hB hr (by decide) hgd (by rfl) (takes_of rfl rfl rfl rfl) (by decide) (fun _ _ _ _ _ _ us ws h1 h2 => match us, ws, h1, h2 with | [_], [], _, _ => rfl)) (sa_cons (se_O hB.symm op_addD (se_name 0) se_int) sa_nil))) se_int)))
theorem kn_size_by (T : Txt P K mg base) : Kn P w K mg base "size_by" "size_by" s_size_by 3 false ["number", "parameter"] F_size_by := .of (g := g_size_by) T.a_size_by sc_size_by rfl fun f cdv A outer s H E hr hgd B hB =>
    (ss_cons (ss_set (i := 2) sc_size_by.nd rfl (.inl rfl) (se_O hB.symm op_shrD (se_name 0) (se_name 1)))
    (ss_one (ss_ret (se_O hB.symm op_addD (se_name 1) (se_if (st_C hB.symm op_ltD (se_name 2) (se_glob (by rfl) (T.c_MOST_ONES.glb rfl hB))) (se_O hB.symm op_addD (se_name 2) se_int) (se_O hB.symm op_addD (se_glob (by rfl) (T.c_MOST_ONES.glb rfl hB)) (se_call ((kn_gamma_size T).dn (n1 := 1) (ks := []) (idx := [0]) ⟨rfl, rfl, rfl, rfl, rfl⟩ hB hr (by decide) hgd (by rfl) (takes_of rfl rfl rfl rfl) (by decide) (fun _ _ _ _ _ _ us ws h1 h2 => match us, ws, h1, h2 with | [_], [], _, _ => rfl)) (sa_cons (se_O hB.symm op_subD (se_name 2) (se_glob (by rfl) (T.c_MOST_ONES.glb rfl hB))) sa_nil))))))))
theorem kn_least_parameter (T : Txt P K mg base) : Kn P w K mg base "least_parameter" "least_parameter" s_least_parameter 4 false ["numbers"] F_least_parameter := .of (g := g_least_parameter) T.a_least_parameter sc_least_parameter rfl fun f cdv A outer s H E hr hgd B hB =>
    (ss_cons (ss_setLc (i := 1) rfl sc_least_parameter.nd rfl rfl (by rfl) (si_rng1 (by rfl) T.z_range (se_O hB.symm op_addD (se_glob (by rfl) (T.c_MOST_PARAMETER.glb rfl hB)) se_int)) (blkOk_by (own := [("parameter", 2)]) (by rfl)) (fun _ _ _ _ _ B1 h1 => (sg_name sc_least_parameter.nd (i := 2) rfl (by first | exact .inl rfl | exact .inr rfl))) (fun _ _ _ _ _ B1 h1 => sts_nil) (fun _ _ _ _ _ B1 h1 => (se_B (h1.trans hB).symm (c_sum rfl) bt_sum T.z_sum (sa_cons (se_new (sn_lc (own := [("number", 3)]) rfl sc_least_parameter.nd (si_seq (h1.trans hB).symm (se_name 0)) (blkOk_by (own := [("number", 3)]) (by rfl)) (fun _ _ _ _ _ B2 h2 => (sg_name sc_least_parameter.nd (i := 3) rfl (by first | exact .inl rfl | exact .inr rfl))) (fun _ _ _ _ _ B2 h2 => sts_nil) (fun _ _ _ _ _ B2 h2 => by exact (se_call ((kn_size_by T).dn (n1 := 2) (ks := []) (idx := [0, 1]) ⟨rfl, rfl, rfl, rfl, rfl⟩ (h2.trans (h1.trans hB)) hr (by decide) hgd (by rfl) takes0 (by decide) (fun _ _ _ _ _ _ us ws h1 h2 => match us, ws, h1, h2 with | [_, _], [], _, _ => rfl)) (sa_cons (se_name 3) (sa_cons (se_name 2) sa_nil)))) (by decide))) sa_nil))) (by decide))
    (ss_one (ss_ret (se_tup (sa_cons (se_index hB.symm (se_name 1) (se_B hB.symm (c_min rfl) bt_min T.z_min (sa_cons (se_name 1) sa_nil))) (sa_cons (se_B hB.symm (c_min rfl) bt_min T.z_min (sa_cons (se_name 1) sa_nil)) sa_nil))))))
theorem kn_best_parameter (T : Txt P K mg base) : Kn P w K mg base "best_parameter" "best_parameter" s_best_parameter 5 false ["numbers"] F_best_parameter := .of (g := g_best_parameter) T.a_best_parameter sc_best_parameter rfl fun f cdv A outer s H E hr hgd B hB =>
    (ss_cons (ss_expr (se_call ((kn_need_row T).dn (n1 := 2) (ks := []) (idx := [0, 1]) ⟨rfl, rfl, rfl, rfl, rfl⟩ hB hr (by decide) hgd (by rfl) (takes_of rfl rfl rfl rfl) (by decide) (fun _ _ _ _ _ _ us ws h1 h2 => match us, ws, h1, h2 with | [_, _], [], _, _ => rfl)) (sa_cons (se_name 0) (sa_cons se_int sa_nil))))
    (ss_one (ss_ret (se_ix hB.symm (se_call ((kn_least_parameter T).dn (n1 := 1) (ks := []) (idx := [0]) ⟨rfl, rfl, rfl, rfl, rfl⟩ hB hr (by decide) hgd (by rfl) (takes_of rfl rfl rfl rfl) (by decide) (fun _ _ _ _ _ _ us ws h1 h2 => match us, ws, h1, h2 with | [_], [], _, _ => rfl)) (sa_cons (se_name 0) sa_nil)) se_int))))
theorem kn_need_natural (T : Txt P K mg base) : KnD P w K mg base "need_natural" s_need_natural 3 ["number", "part"] [(.str "number")] F_need_natural := .of (g := g_need_natural) T.a_need_natural sc_need_natural rfl fun f cdv A outer s H E hr hgd B hB =>
    (ss_one (ss_if (SW.st (sw_or (st_not (st_val (se_call ((kn_is_integer T).dn (n1 := 1) (ks := []) (idx := [0]) ⟨rfl, rfl, rfl, rfl, rfl⟩ hB hr (by decide) hgd (by rfl) (takes_of rfl rfl rfl rfl) (by decide) (fun _ _ _ _ _ _ us ws h1 h2 => match us, ws, h1, h2 with | [_], [], _, _ => rfl)) (sa_cons (se_name 0) sa_nil)))) (sw_or1 (st_C hB.symm op_ltD (se_name 0) se_int))))
    (ss_one (ss_raise ((kx_BadNumber T).dn ⟨rfl, rfl, rfl, rfl, rfl⟩ hr (by decide) (by rfl) (takes_of rfl rfl rfl rfl)) (by decide) rfl hB.symm (passes_call (takes_of rfl rfl rfl rfl) (fun _ _ _ _ z => False.elim z)) (sa_cons (se_name 1) sa_nil)))
    ss_nil))
theorem kn_is_within (T : Txt P K mg base) : Kn P w K mg base "is_within" "is_within" s_is_within 2 false ["value", "least", "most"] F_is_within := .of (g := g_is_within) T.a_is_within sc_is_within rfl fun f cdv A outer s H E hr hgd B hB =>
    (ss_cons (ss_if (st_not (st_val (se_call ((kn_is_integer T).dn (n1 := 1) (ks := []) (idx := [0]) ⟨rfl, rfl, rfl, rfl, rfl⟩ hB hr (by decide) hgd (by rfl) (takes_of rfl rfl rfl rfl) (by decide) (fun _ _ _ _ _ _ us ws h1 h2 => match us, ws, h1, h2 with | [_], [], _, _ => rfl)) (sa_cons (se_name 0) sa_nil))))
    (ss_one (ss_ret se_bl))
    ss_nil)
    (ss_one (ss_ret (se_and (se_or (se_C hB.symm op_isD (se_name 1) se_non) (se_one (se_C hB.symm op_geD (se_name 0) (se_name 1)))) (se_one (se_or (se_C hB.symm op_isD (se_name 2) se_non) (se_one (se_C hB.symm op_leD (se_name 0) (se_name 2)))))))))
theorem kn_need_parameter (T : Txt P K mg base) : Kn P w K mg base "need_parameter" "need_parameter" s_need_parameter 3 false ["parameter"] F_need_parameter := .of (g := g_need_parameter) T.a_need_parameter sc_need_parameter rfl fun f cdv A outer s H E hr hgd B hB =>
    (ss_one (ss_if (st_not (st_val (se_call ((kn_is_within T).dn (n1 := 3) (ks := []) (idx := [0, 1, 2]) ⟨rfl, rfl, rfl, rfl, rfl⟩ hB hr (by decide) hgd (by rfl) (takes_of rfl rfl rfl rfl) (by decide) (fun _ _ _ _ _ _ us ws h1 h2 => match us, ws, h1, h2 with | [_, _, _], [], _, _ => rfl)) (sa_cons (se_name 0) (sa_cons se_int (sa_cons (se_glob (by rfl) (T.c_MOST_PARAMETER.glb rfl hB)) sa_nil))))))
    (ss_one (ss_raise ((kx_BadNumber T).dn ⟨rfl, rfl, rfl, rfl, rfl⟩ hr (by decide) (by rfl) (takes_of rfl rfl rfl rfl)) (by decide) rfl hB.symm (passes_call (takes_of rfl rfl rfl rfl) (fun _ _ _ _ z => False.elim z)) (sa_cons se_str sa_nil)))
    ss_nil))
theorem kn_rice_size (T : Txt P K mg base) : Kn P w K mg base "rice_size" "rice_size" s_rice_size 4 false ["number", "parameter"] F_rice_size := .of (g := g_rice_size) T.a_rice_size sc_rice_size rfl fun f cdv A outer s H E hr hgd B hB =>
    (ss_cons (ss_expr (se_call ((kn_need_natural T).dn (n1 := 1) (ks := []) (idx := [0, 1]) ⟨rfl, rfl, rfl, rfl, rfl⟩ hB hr (by decide) hgd (by rfl) (takes_of rfl rfl rfl rfl) (by decide) (fun _ _ _ _ _ _ _ us its ws h1 h2 h3 => match us, its, ws, h1, h2, h3 with | [_], [_], [], _, _, _ => ⟨_, rfl, rfl⟩)) (sa_cons (se_name 0) sa_nil)))
    (ss_cons (ss_expr (se_call ((kn_need_parameter T).dn (n1 := 1) (ks := []) (idx := [0]) ⟨rfl, rfl, rfl, rfl, rfl⟩ hB hr (by decide) hgd (by rfl) (takes_of rfl rfl rfl rfl) (by decide) (fun _ _ _ _ _ _ us ws h1 h2 => match us, ws, h1, h2 with | [_], [], _, _ => rfl)) (sa_cons (se_name 1) sa_nil)))
    (ss_one (ss_ret (se_call ((kn_size_by T).dn (n1 := 2) (ks := []) (idx := [0, 1]) ⟨rfl, rfl, rfl, rfl, rfl⟩ hB hr (by decide) hgd (by rfl) (takes_of rfl rfl rfl rfl) (by decide) (fun _ _ _ _ _ _ us ws h1 h2 => match us, ws, h1, h2 with | [_, _], [], _, _ => rfl)) (sa_cons (se_name 0) (sa_cons (se_name 1) sa_nil)))))))
theorem kn_lowest_bits (T : Txt P K mg base) : Kn P w K mg base "lowest_bits" "lowest_bits" s_lowest_bits 1 false ["number", "many"] F_lowest_bits := .of (g := g_lowest_bits) T.a_lowest_bits sc_lowest_bits rfl fun f cdv A outer s H E hr hgd B hB =>
    (ss_one (ss_retN (sn_lc (own := [("at", 2)]) rfl sc_lowest_bits.nd (si_rng1 (by rfl) T.z_range (se_name 1)) (blkOk_by (own := [("at", 2)]) (by rfl)) (fun _ _ _ _ _ B1 h1 => (sg_name sc_lowest_bits.nd (i := 2) rfl (by first | exact .inl rfl | exact .inr rfl))) (fun _ _ _ _ _ B1 h1 => sts_nil) (fun _ _ _ _ _ B1 h1 => (se_O (h1.trans hB).symm op_bandD (se_O (h1.trans hB).symm op_shrD (se_name 0) (se_O (h1.trans hB).symm op_subD (se_O (h1.trans hB).symm op_subD (se_name 1) se_int) (se_name 2))) se_int)) (by decide))))
theorem kn_gamma_bits (T : Txt P K mg base) : Kn P w K mg base "gamma_bits" "gamma_bits" s_gamma_bits 2 false ["number"] F_gamma_bits := .of (g := g_gamma_bits) T.a_gamma_bits sc_gamma_bits rfl fun f cdv A outer s H E hr hgd B hB =>
    (ss_cons (ss_set (i := 1) sc_gamma_bits.nd rfl (.inl rfl) (se_call ((kn_digits_in T).dn (n1 := 1) (ks := []) (idx := [0]) ⟨rfl, rfl, rfl, rfl, rfl⟩ hB hr (by decide) hgd (by rfl) (takes_of rfl rfl rfl rfl) (by decide) (fun _ _ _ _ _ _ us ws h1 h2 => match us, ws, h1, h2 with | [_], [], _, _ => rfl)) (sa_cons (se_O hB.symm op_addD (se_name 0) se_int) sa_nil)))
    (ss_one (ss_ret (se_O hB.symm op_addD (se_O hB.symm op_mulD (se_lst (sa_cons se_int sa_nil)) (se_O hB.symm op_subD (se_name 1) se_int)) (se_call ((kn_lowest_bits T).dn (n1 := 2) (ks := []) (idx := [0, 1]) ⟨rfl, rfl, rfl, rfl, rfl⟩ hB hr (by decide) hgd (by rfl) (takes_of rfl rfl rfl rfl) (by decide) (fun _ _ _ _ _ _ us ws h1 h2 => match us, ws, h1, h2 with | [_, _], [], _, _ => rfl)) (sa_cons (se_O hB.symm op_addD (se_name 0) se_int) (sa_cons (se_name 1) sa_nil)))))))
theorem kn_rice_bits (T : Txt P K mg base) : Kn P w K mg base "rice_bits" "rice_bits" s_rice_bits 3 false ["number", "parameter"] F_rice_bits := .of (g := g_rice_bits) T.a_rice_bits sc_rice_bits rfl fun f cdv A outer s H E hr hgd B hB =>
    (ss_cons (ss_set (i := 2) sc_rice_bits.nd rfl (.inl rfl) (se_O hB.symm op_shrD (se_name 0) (se_name 1)))
    (ss_cons (ss_set (i := 3) sc_rice_bits.nd rfl (.inl rfl) (se_if (st_C hB.symm op_ltD (se_name 2) (se_glob (by rfl) (T.c_MOST_ONES.glb rfl hB))) (se_O hB.symm op_addD (se_O hB.symm op_mulD (se_lst (sa_cons se_int sa_nil)) (se_name 2)) (se_lst (sa_cons se_int sa_nil))) (se_O hB.symm op_addD (se_O hB.symm op_mulD (se_lst (sa_cons se_int sa_nil)) (se_glob (by rfl) (T.c_MOST_ONES.glb rfl hB))) (se_call ((kn_gamma_bits T).dn (n1 := 1) (ks := []) (idx := [0]) ⟨rfl, rfl, rfl, rfl, rfl⟩ hB hr (by decide) hgd (by rfl) (takes_of rfl rfl rfl rfl) (by decide) (fun _ _ _ _ _ _ us ws h1 h2 => match us, ws, h1, h2 with | [_], [], _, _ => rfl)) (sa_cons (se_O hB.symm op_subD (se_name 2) (se_glob (by rfl) (T.c_MOST_ONES.glb rfl hB))) sa_nil)))))
    (ss_one (ss_ret (se_O hB.symm op_addD (se_name 3) (se_call ((kn_lowest_bits T).dn (n1 := 2) (ks := []) (idx := [0, 1]) ⟨rfl, rfl, rfl, rfl, rfl⟩ hB hr (by decide) hgd (by rfl) (takes_of rfl rfl rfl rfl) (by decide) (fun _ _ _ _ _ _ us ws h1 h2 => match us, ws, h1, h2 with | [_, _], [], _, _ => rfl)) (sa_cons (se_name 0) (sa_cons (se_name 1) sa_nil))))))))
theorem kn_rice (T : Txt P K mg base) : Kn P w K mg base "rice" "rice" s_rice 4 false ["number", "parameter"] F_rice := .of (g := g_rice) T.a_rice sc_rice rfl fun f cdv A outer s H E hr hgd B hB =>
    (ss_cons (ss_expr (se_call ((kn_need_natural T).dn (n1 := 1) (ks := []) (idx := [0, 1]) ⟨rfl, rfl, rfl, rfl, rfl⟩ hB hr (by decide) hgd (by rfl) (takes_of rfl rfl rfl rfl) (by decide) (fun _ _ _ _ _ _ _ us its ws h1 h2 h3 => match us, its, ws, h1, h2, h3 with | [_], [_], [], _, _, _ => ⟨_, rfl, rfl⟩)) (sa_cons (se_name 0) sa_nil)))
    (ss_cons (ss_expr (se_call ((kn_need_parameter T).dn (n1 := 1) (ks := []) (idx := [0]) ⟨rfl, rfl, rfl, rfl, rfl⟩ hB hr (by decide) hgd (by rfl) (takes_of rfl rfl rfl rfl) (by decide) (fun _ _ _ _ _ _ us ws h1 h2 => match us, ws, h1, h2 with | [_], [], _, _ => rfl)) (sa_cons (se_name 1) sa_nil)))
    (ss_one (ss_ret (se_T hB.symm c_tuple bt_tuple T.z_tuple (sa_cons (se_call ((kn_rice_bits T).dn (n1 := 2) (ks := []) (idx := [0, 1]) ⟨rfl, rfl, rfl, rfl, rfl⟩ hB hr (by decide) hgd (by rfl) (takes_of rfl rfl rfl rfl) (by decide) (fun _ _ _ _ _ _ us ws h1 h2 => match us, ws, h1, h2 with | [_, _], [], _, _ => rfl)) (sa_cons (se_name 0) (sa_cons (se_name 1) sa_nil))) sa_nil))))))
theorem kn__law_right (T : Txt P K mg base) : Kn P w K mg base "_law_right" "_law_right" s__law_right 6 true ["well"] F__law_right := .of (g := g__law_right) T.a__law_right sc__law_right rfl fun f cdv A outer s H E hr hgd B hB =>
    (ss_cons (ss_set (i := 1) sc__law_right.nd rfl (.inl rfl) (se_callIo 0 ((kn__law_row T).dnIo ⟨rfl, rfl, rfl, rfl, rfl⟩ hB hr (by decide) hgd (by rfl) (takes_of rfl rfl rfl rfl) (by decide) (fun _ _ _ _ _ _ us ws h1 h2 => match us, ws, h1, h2 with | [_], [], _, _ => rfl)) sa_nil))
    (ss_cons (ss_set (i := 2) sc__law_right.nd rfl (.inl rfl) (se_call ((kn__law_sizes T).dn (n1 := 1) (ks := []) (idx := [0]) ⟨rfl, rfl, rfl, rfl, rfl⟩ hB hr (by decide) hgd (by rfl) (takes_of rfl rfl rfl rfl) (by decide) (fun _ _ _ _ _ _ us ws h1 h2 => match us, ws, h1, h2 with | [_], [], _, _ => rfl)) (sa_cons (se_name 1) sa_nil)))
    (ss_cons (ss_set (i := 3) sc__law_right.nd rfl (.inl rfl) (se_index hB.symm (se_name 2) (se_B hB.symm (c_min rfl) bt_min T.z_min (sa_cons (se_name 2) sa_nil))))
    (ss_cons (ss_if (SW.st (sw_or (st_C hB.symm (op_neDD hr.units) (se_B hB.symm (c_repr hgd hr.units) bt_repr T.z_repr (sa_cons (se_call ((kn_best_parameter T).dn (n1 := 1) (ks := []) (idx := [0]) ⟨rfl, rfl, rfl, rfl, rfl⟩ hB hr (by decide) hgd (by rfl) (takes_of rfl rfl rfl rfl) (by decide) (fun _ _ _ _ _ _ us ws h1 h2 => match us, ws, h1, h2 with | [_], [], _, _ => rfl)) (sa_cons (se_name 1) sa_nil)) sa_nil)) (se_B hB.symm (c_repr hgd hr.units) bt_repr T.z_repr (sa_cons (se_name 3) sa_nil))) (sw_or1 (st_C hB.symm (op_neDD hr.units) (se_B hB.symm (c_repr hgd hr.units) bt_repr T.z_repr (sa_cons (se_callK0 ((kn_best_parameter T).dn (n1 := 0) (ks := ["numbers"]) (idx := [0]) ⟨rfl, rfl, rfl, rfl, rfl⟩ hB hr (by decide) hgd (by rfl) (takes_of rfl rfl rfl rfl) (by decide) (fun _ _ _ _ _ _ us ws h1 h2 => match us, ws, h1, h2 with | [], [_], _, _ => rfl)) (sk_cons (se_T hB.symm c_tuple bt_tuple T.z_tuple (sa_cons (se_rev hB.symm (se_name 1)) sa_nil)) sk_nil)) sa_nil)) (se_B hB.symm (c_repr hgd hr.units) bt_repr T.z_repr (sa_cons (se_name 3) sa_nil))))))
    (ss_one (ss_ret se_bl))
    ss_nil)
    (ss_cons (ss_for (passes_of rfl) rfl (si_seq hB.symm (se_tup (sa_cons se_int (sa_cons (se_name 3) (sa_cons se_int (sa_cons (se_callIo 0 ((kn__law_draw T).dnIo ⟨rfl, rfl, rfl, rfl, rfl⟩ hB hr (by decide) hgd (by rfl) (takes_of rfl rfl rfl rfl) (by decide) (fun _ _ _ _ _ _ us ws h1 h2 => match us, ws, h1, h2 with | [_, _], [], _, _ => rfl)) (sa_cons se_int sa_nil)) sa_nil)))))) (sg_name sc__law_right.nd (i := 4) rfl (.inr rfl))
    (ss_cons (ss_setLc (i := 5) rfl sc__law_right.nd rfl rfl (by rfl) (si_seq hB.symm (se_name 1)) (blkOk_by (own := [("number", 6)]) (by rfl)) (fun _ _ _ _ _ B1 h1 => (sg_name sc__law_right.nd (i := 6) rfl (by first | exact .inl rfl | exact .inr rfl))) (fun _ _ _ _ _ B1 h1 => sts_nil) (fun _ _ _ _ _ B1 h1 => (se_call ((kn_rice_size T).dn (n1 := 2) (ks := []) (idx := [0, 1]) ⟨rfl, rfl, rfl, rfl, rfl⟩ (h1.trans hB) hr (by decide) hgd (by rfl) takes0 (by decide) (fun _ _ _ _ _ _ us ws h1 h2 => match us, ws, h1, h2 with | [_, _], [], _, _ => rfl)) (sa_cons (se_name 6) (sa_cons (se_name 4) sa_nil)))) (by decide))
    (ss_one (ss_if (SW.st (sw_or (st_C hB.symm (op_neDD hr.units) (se_B hB.symm (c_repr hgd hr.units) bt_repr T.z_repr (sa_cons (se_B hB.symm (c_sum rfl) bt_sum T.z_sum (sa_cons (se_name 5) sa_nil)) sa_nil)) (se_B hB.symm (c_repr hgd hr.units) bt_repr T.z_repr (sa_cons (se_ix hB.symm (se_name 2) (se_name 4)) sa_nil))) (sw_or1 (st_C hB.symm (op_neDD hr.units) (se_new (sn_lc (own := [("size", 7), ("number", 6)]) rfl sc__law_right.nd (si_zip hB.symm (by rfl) T.z_zip (se_name 5) (se_name 1)) (blkOk_by (own := [("size", 7), ("number", 6)]) (by rfl)) (fun _ _ _ _ _ B1 h1 => (sg_tup rfl (h1.trans hB).symm (sgs_cons (sg_name sc__law_right.nd (i := 7) rfl (by first | exact .inl rfl | exact .inr rfl)) (sgs_cons (sg_name sc__law_right.nd (i := 6) rfl (by first | exact .inl rfl | exact .inr rfl)) sgs_nil)))) (fun _ _ _ _ _ B1 h1 => (sts_one (st_C (h1.trans hB).symm (op_neDD hr.units) (se_name 7) (se_B (h1.trans hB).symm c_len bt_len T.z_len (sa_cons (se_call ((kn_rice T).dn (n1 := 2) (ks := []) (idx := [0, 1]) ⟨rfl, rfl, rfl, rfl, rfl⟩ (h1.trans hB) hr (by decide) hgd (by rfl) takes0 (by decide) (fun _ _ _ _ _ _ us ws h1 h2 => match us, ws, h1, h2 with | [_, _], [], _, _ => rfl)) (sa_cons (se_name 6) (sa_cons (se_name 4) sa_nil))) sa_nil))))) (fun _ _ _ _ _ B1 h1 => (se_name 7)) (by decide))) (se_lst sa_nil)))))
    (ss_one (ss_ret se_bl))
    ss_nil))))
    (ss_one (ss_ret (se_C hB.symm (op_eqDD hr.units) (se_call ((kn_best_parameter T).dn (n1 := 1) (ks := []) (idx := [0]) ⟨rfl, rfl, rfl, rfl, rfl⟩ hB hr (by decide) hgd (by rfl) (takes_of rfl rfl rfl rfl) (by decide) (fun _ _ _ _ _ _ us ws h1 h2 => match us, ws, h1, h2 with | [_], [], _, _ => rfl)) (sa_cons (se_O hB.symm op_addD (se_name 1) (se_name 1)) sa_nil)) (se_name 3)))))))))
theorem kh__law_heard (T : Txt P K mg base) : HKn K mg "_law_heard" s__law_heard ["ask", "found", "caught", "error"] "ask" H__law_heard :=
    ⟨T.a__law_heard, sc__law_heard, rfl, .inl rfl, by decide, by decide, (fun _ _ _ _ _ _ us h => match us, h with | [_], _ => rfl), fun k X hK hm hgX g cdg qq => by
    subst hK hm
    obtain ⟨CS, he, hx⟩ := T.e_SaveError.ex
    exact hears (gp := gp__law_heard) (gr := gr__law_heard) (ti := none) (hk := (.found 1)) (ci := 2) (ei := 3) sc__law_heard.nd rfl rfl ⟨by decide, by decide⟩ (by decide) ⟨by decide, by decide, by decide⟩ rfl rfl rfl he (by decide) (by decide) (by decide) hgX
      (fun s H B hB hr => (ss_asg (se_tup (sa_cons se_non (sa_cons se_non sa_nil))) (sg_tup rfl hB.symm (sgs_cons (sg_name sc__law_heard.nd (i := 1) rfl (by first | exact .inl rfl | exact .inr rfl)) (sgs_cons (sg_name sc__law_heard.nd (i := 2) rfl (by first | exact .inl rfl | exact .inr rfl)) sgs_nil)))))
      (fun f => rfl) rfl rfl rfl (okPre_by rfl)
      (tst_found sc__law_heard.nd rfl rfl) (fun fi h => by cases h; exact ⟨by decide, by decide, by decide⟩)
      (fun s H B hB hr hgd => (ss_cons (ss_if (st_val (se_isiX (yes := ["BadNumber"]) (no := ["BadRow"]) hB.symm (hB.symm ▸ T.x_BadNumber) T.z_isinstance (se_name 2)))
    (ss_one (ss_ret (se_tup (sa_cons se_str (sa_cons (se_xfld (ns := ["BadNumber"]) hB.symm (fun c hc => by rw [List.mem_singleton.mp hc, hB]; exact T.f_BadNumber_part.at) (se_name 2)) sa_nil)))))
    ss_nil)
    (ss_cons (ss_if (st_val (se_isiX (yes := []) (no := ["BadNumber", "BadRow"]) hB.symm (hB.symm ▸ T.x_BadBits) T.z_isinstance (se_name 2)))
    (ss_one (ss_ret (se_tup (sa_cons se_str (sa_cons (se_xfld (ns := ["BadRow"]) hB.symm (fun c hc => by rw [List.mem_singleton.mp hc, hB]; exact T.f_BadRow_at.at) (se_name 2)) sa_nil)))))
    ss_nil)
    (ss_cons (ss_if (st_val (se_isiX (yes := []) (no := ["BadNumber", "BadRow"]) hB.symm (hB.symm ▸ T.x_BadCode) T.z_isinstance (se_name 2)))
    (ss_one (ss_ret (se_tup (sa_cons se_str (sa_cons (se_xfld (ns := ["BadNumber"]) hB.symm (fun c hc => by rw [List.mem_singleton.mp hc, hB]; exact T.f_BadNumber_part.at) (se_name 2)) sa_nil)))))
    ss_nil)
    (ss_cons (ss_if (st_val (se_isiX (yes := ["BadRow"]) (no := ["BadNumber"]) hB.symm (hB.symm ▸ T.x_BadRow) T.z_isinstance (se_name 2)))
    (ss_one (ss_ret (se_tup (sa_cons se_str (sa_cons (se_xfld (ns := ["BadRow"]) hB.symm (fun c hc => by rw [List.mem_singleton.mp hc, hB]; exact T.f_BadRow_at.at) (se_name 2)) sa_nil)))))
    ss_nil)
    (ss_cons (ss_if (st_val (se_isiX (yes := []) (no := ["BadNumber", "BadRow"]) hB.symm (hB.symm ▸ T.x_BadStream) T.z_isinstance (se_name 2)))
    (ss_one (ss_ret (se_tup (sa_cons se_str (sa_cons (se_xfld (ns := ["BadRow"]) hB.symm (fun c hc => by rw [List.mem_singleton.mp hc, hB]; exact T.f_BadRow_at.at) (se_name 2)) sa_nil)))))
    ss_nil)
    (ss_cons (ss_if (st_val (se_isiX (yes := []) (no := ["BadNumber", "BadRow"]) hB.symm (hB.symm ▸ T.x_Misfit) T.z_isinstance (se_name 2)))
    (ss_one (ss_ret (se_tup (sa_cons se_str (sa_cons (se_xfld (ns := ["BadNumber"]) hB.symm (fun c hc => by rw [List.mem_singleton.mp hc, hB]; exact T.f_BadNumber_part.at) (se_name 2)) sa_nil)))))
    ss_nil)
    (ss_cons (ss_if (st_val (se_isiX (yes := []) (no := ["BadNumber", "BadRow"]) hB.symm (hB.symm ▸ T.x_TooMany) T.z_isinstance (se_name 2)))
    (ss_one (ss_ret (se_tup (sa_cons se_str (sa_cons (se_xfld (ns := []) hB.symm (fun c hc => nomatch hc) (se_name 2)) (sa_cons (se_xfld (ns := []) hB.symm (fun c hc => nomatch hc) (se_name 2)) sa_nil))))))
    ss_nil)
    (ss_cons (ss_if (st_val (se_isiX (yes := []) (no := ["BadNumber", "BadRow"]) hB.symm (hB.symm ▸ T.x_BadBlock) T.z_isinstance (se_name 2)))
    (ss_one (ss_ret (se_tup (sa_cons se_str (sa_cons (se_xfld (ns := []) hB.symm (fun c hc => nomatch hc) (se_name 2)) sa_nil)))))
    ss_nil)
    (ss_one (ss_ret (se_if (st_C hB.symm op_isD (se_name 2) se_non) (se_tup (sa_cons se_str (sa_cons (se_name 1) sa_nil))) (se_if (st_val (se_isiX (yes := []) (no := ["BadNumber", "BadRow"]) hB.symm (hB.symm ▸ T.x_Nothing) T.z_isinstance (se_name 2))) (se_tup (sa_cons se_str sa_nil)) (se_tup (sa_cons se_str sa_nil)))))))))))))))
      (fun cn C h hC => hx cn (of_decide_eq_true h) C hC) (fun _ _ _ _ => rfl)⟩
theorem kn__law_refused_right (T : Txt P K mg base) : Kn P w K mg base "_law_refused_right" "_law_refused_right" s__law_refused_right 8 true ["well"] F__law_refused_right := .ofL (g := g__law_refused_right) T.a__law_refused_right sc__law_refused_right rfl fun f cdv A outer s H E hla hr hgd B hB =>
    (ss_cons (ss_par (i := 1) (j := 2) rfl sc__law_refused_right.nd rfl rfl (by decide) rfl rfl (sa_cons (se_lst (sa_cons se_int (sa_cons se_int (sa_cons (se_O hB.symm op_powD se_int se_int) (sa_cons se_int sa_nil))))) (sa_cons (se_callIo 0 ((kn__law_draw T).dnIo ⟨rfl, rfl, rfl, rfl, rfl⟩ hB hr (by decide) hgd (by rfl) (takes_of rfl rfl rfl rfl) (by decide) (fun _ _ _ _ _ _ us ws h1 h2 => match us, ws, h1, h2 with | [_, _], [], _, _ => rfl)) (sa_cons se_int sa_nil)) sa_nil)) (by rfl))
    (ss_cons (ss_set (i := 4) sc__law_refused_right.nd rfl (.inr rfl) (se_O hB.symm op_addD (se_O hB.symm op_addD (se_sl hB.symm (se_name 1) so_none (so_some (se_name 2))) (se_lst (sa_cons (se_callIo 0 ((kn__law_one T).dnIo ⟨rfl, rfl, rfl, rfl, rfl⟩ hB hr (by decide) hgd (by rfl) (takes_of rfl rfl rfl rfl) (by decide) (fun _ _ _ _ _ _ us ws h1 h2 => match us, ws, h1, h2 with | [_, _], [], _, _ => rfl)) (sa_cons (se_lst (sa_cons se_non (sa_cons (se_neg hB.symm se_int) (sa_cons se_bl (sa_cons se_str (sa_cons (se_tup (sa_cons se_int sa_nil)) (sa_cons (se_neg hB.symm (se_O hB.symm op_powD se_int se_int)) sa_nil))))))) sa_nil)) sa_nil))) (se_sl hB.symm (se_name 1) (so_some (se_name 2)) so_none)))
    (ss_cons (ss_setN (i := 3) sc__law_refused_right.nd rfl (.inl rfl) (sn_lst (sa_cons (se_hear (k := 5) (kh__law_heard T) ⟨rfl, rfl⟩ hB hla hr (by decide) hgd (by rfl) (fun A outer s H E f c hr hgd B1 h1 => by exact (se_call ((kn_best_parameter T).dn (n1 := 1) (ks := []) (idx := [0]) ⟨rfl, rfl, rfl, rfl, rfl⟩ h1 hr (by decide) hgd (by rfl) (takes_of rfl rfl rfl rfl) (by decide) (fun _ _ _ _ _ _ us ws h1 h2 => match us, ws, h1, h2 with | [_], [], _, _ => rfl)) (sa_cons (se_name 4) sa_nil)))) sa_nil)))
    (ss_cons (ss_app 3 hB.symm (ps_expr (pe_bm PySem.F.plainAttrs_list PySem.F.slot_list_append PySem.F.type_list_append mt_append (pv 3) (pa_cons (se_hear (k := 5) (kh__law_heard T) ⟨rfl, rfl⟩ hB hla hr (by decide) hgd (by rfl) (fun A outer s H E f c hr hgd B1 h1 => by exact (se_call ((kn_best_parameter T).dn (n1 := 1) (ks := []) (idx := [0]) ⟨rfl, rfl, rfl, rfl, rfl⟩ h1 hr (by decide) hgd (by rfl) (takes_of rfl rfl rfl rfl) (by decide) (fun _ _ _ _ _ _ us ws h1 h2 => match us, ws, h1, h2 with | [_], [], _, _ => rfl)) (sa_cons (se_callIo 0 ((kn__law_one T).dnIo ⟨rfl, rfl, rfl, rfl, rfl⟩ h1 hr (by decide) hgd (by rfl) (takes_of rfl rfl rfl rfl) (by decide) (fun _ _ _ _ _ _ us ws h1 h2 => match us, ws, h1, h2 with | [_, _], [], _, _ => rfl)) (sa_cons (se_lst (sa_cons se_non (sa_cons se_int (sa_cons se_str (sa_cons se_dic0 (sa_cons se_bl sa_nil)))))) sa_nil)) sa_nil)))) pa_nil))))
    (ss_one (ss_ret (se_C hB.symm (op_eqDD hr.units) (se_name 3) (se_lst (sa_cons (se_tup (sa_cons se_str (sa_cons (se_name 2) sa_nil))) (sa_cons (se_tup (sa_cons se_str (sa_cons se_non sa_nil))) sa_nil))))))))))
theorem kn_law (T : Txt P K mg base) : Kn P w K mg base "law" "law" s_law 9 false ["script"] F_law := .of (g := g_law) T.a_law sc_law rfl fun f cdv A outer s H E hr hgd B hB =>
    (ss_cons (ss_setN (i := 1) sc_law.nd rfl (.inl rfl) (sn_call ((kn__law_well T).dn (n1 := 1) (ks := []) (idx := [0]) ⟨rfl, rfl, rfl, rfl, rfl⟩ hB hr (by decide) hgd (by rfl) (takes_of rfl rfl rfl rfl) (by decide) (fun _ _ _ _ _ _ us ws h1 h2 => match us, ws, h1, h2 with | [_], [], _, _ => rfl)) (sa_cons (se_name 0) sa_nil)))
    (ss_cons (ss_for (passes_of rfl) rfl (si_rng1 (by rfl) T.z_range se_int) (sg_name sc_law.nd (i := 2) rfl (.inl rfl))
    (ss_one (ss_if (SW.st (sw_or (st_not (st_val (se_callIo 1 ((kn__law_right T).dnIo ⟨rfl, rfl, rfl, rfl, rfl⟩ hB hr (by decide) hgd (by rfl) (takes_of rfl rfl rfl rfl) (by decide) (fun _ _ _ _ _ _ us ws h1 h2 => match us, ws, h1, h2 with | [_], [], _, _ => rfl)) sa_nil))) (sw_or1 (st_not (st_val (se_callIo 1 ((kn__law_refused_right T).dnIo ⟨rfl, rfl, rfl, rfl, rfl⟩ hB hr (by decide) hgd (by rfl) (takes_of rfl rfl rfl rfl) (by decide) (fun _ _ _ _ _ _ us ws h1 h2 => match us, ws, h1, h2 with | [_], [], _, _ => rfl)) sa_nil))))))
    (ss_one (ss_ret se_bl))
    ss_nil)))
    (ss_cons (ss_set (i := 3) sc_law.nd rfl (.inr rfl) (se_O hB.symm op_addD se_int (se_callIo 1 ((kn__law_draw T).dnIo ⟨rfl, rfl, rfl, rfl, rfl⟩ hB hr (by decide) hgd (by rfl) (takes_of rfl rfl rfl rfl) (by decide) (fun _ _ _ _ _ _ us ws h1 h2 => match us, ws, h1, h2 with | [_, _], [], _, _ => rfl)) (sa_cons se_int sa_nil))))
    (ss_cons (ss_setLc (i := 4) rfl sc_law.nd rfl rfl (by rfl) (si_rng1 (by rfl) T.z_range (se_O hB.symm op_addD se_int (se_callIo 1 ((kn__law_draw T).dnIo ⟨rfl, rfl, rfl, rfl, rfl⟩ hB hr (by decide) hgd (by rfl) (takes_of rfl rfl rfl rfl) (by decide) (fun _ _ _ _ _ _ us ws h1 h2 => match us, ws, h1, h2 with | [_, _], [], _, _ => rfl)) (sa_cons se_int sa_nil)))) (blkOk_by (own := [("at", 7)]) (by rfl)) (fun _ _ _ _ _ B1 h1 => (sg_name sc_law.nd (i := 7) rfl (by first | exact .inl rfl | exact .inr rfl))) (fun _ _ _ _ _ B1 h1 => sts_nil) (fun _ _ _ _ _ B1 h1 => (se_O (h1.trans hB).symm op_modD (se_T (h1.trans hB).symm c_int bt_int T.z_int (sa_cons (se_O (h1.trans hB).symm op_addD (se_O (h1.trans hB).symm op_mulD (se_O (h1.trans hB).symm op_mulD (se_name 7) (se_name 7)) se_int) (se_name 7)) sa_nil)) (se_name 3))) (by decide))
    (ss_cons (ss_set (i := 5) sc_law.nd rfl (.inl rfl) (se_call ((kn__law_sizes T).dn (n1 := 1) (ks := []) (idx := [0]) ⟨rfl, rfl, rfl, rfl, rfl⟩ hB hr (by decide) hgd (by rfl) (takes_of rfl rfl rfl rfl) (by decide) (fun _ _ _ _ _ _ us ws h1 h2 => match us, ws, h1, h2 with | [_], [], _, _ => rfl)) (sa_cons (se_name 4) sa_nil)))
    (ss_cons (ss_if (st_C hB.symm (op_neDD hr.units) (se_call ((kn_best_parameter T).dn (n1 := 1) (ks := []) (idx := [0]) ⟨rfl, rfl, rfl, rfl, rfl⟩ hB hr (by decide) hgd (by rfl) (takes_of rfl rfl rfl rfl) (by decide) (fun _ _ _ _ _ _ us ws h1 h2 => match us, ws, h1, h2 with | [_], [], _, _ => rfl)) (sa_cons (se_new (sn_T hB.symm c_list bt_list T.z_list (sa_cons (se_name 4) sa_nil))) sa_nil)) (se_index hB.symm (se_name 5) (se_B hB.symm (c_min rfl) bt_min T.z_min (sa_cons (se_name 5) sa_nil))))
    (ss_one (ss_ret se_bl))
    ss_nil)
    (ss_cons (ss_set (i := 6) sc_law.nd rfl (.inl rfl) (se_O hB.symm op_addD se_int (se_callIo 1 ((kn__law_draw T).dnIo ⟨rfl, rfl, rfl, rfl, rfl⟩ hB hr (by decide) hgd (by rfl) (takes_of rfl rfl rfl rfl) (by decide) (fun _ _ _ _ _ _ us ws h1 h2 => match us, ws, h1, h2 with | [_, _], [], _, _ => rfl)) (sa_cons se_int sa_nil))))
    (ss_one (ss_ret (se_and (se_C hB.symm (op_eqDD hr.units) (se_call ((kn_best_parameter T).dn (n1 := 1) (ks := []) (idx := [0]) ⟨rfl, rfl, rfl, rfl, rfl⟩ hB hr (by decide) hgd (by rfl) (takes_of rfl rfl rfl rfl) (by decide) (fun _ _ _ _ _ _ us ws h1 h2 => match us, ws, h1, h2 with | [_], [], _, _ => rfl)) (sa_cons (se_tup sa_nil) sa_nil)) se_int) (se_and (se_C hB.symm (op_eqDD hr.units) (se_call ((kn_best_parameter T).dn (n1 := 1) (ks := []) (idx := [0]) ⟨rfl, rfl, rfl, rfl, rfl⟩ hB hr (by decide) hgd (by rfl) (takes_of rfl rfl rfl rfl) (by decide) (fun _ _ _ _ _ _ us ws h1 h2 => match us, ws, h1, h2 with | [_], [], _, _ => rfl)) (sa_cons (se_lst (sa_cons (se_call ((kn__law_power T).dn (n1 := 1) (ks := []) (idx := [0]) ⟨rfl, rfl, rfl, rfl, rfl⟩ hB hr (by decide) hgd (by rfl) (takes_of rfl rfl rfl rfl) (by decide) (fun _ _ _ _ _ _ us ws h1 h2 => match us, ws, h1, h2 with | [_], [], _, _ => rfl)) (sa_cons (se_name 6) sa_nil)) sa_nil)) sa_nil)) (se_O hB.symm op_subD (se_name 6) se_int)) (se_and (se_C hB.symm (op_eqDD hr.units) (se_call ((kn_best_parameter T).dn (n1 := 1) (ks := []) (idx := [0]) ⟨rfl, rfl, rfl, rfl, rfl⟩ hB hr (by decide) hgd (by rfl) (takes_of rfl rfl rfl rfl) (by decide) (fun _ _ _ _ _ _ us ws h1 h2 => match us, ws, h1, h2 with | [_], [], _, _ => rfl)) (sa_cons (se_lst (sa_cons se_int sa_nil)) sa_nil)) se_int) (se_one (se_C hB.symm (op_eqDD hr.units) (se_call ((kn_best_parameter T).dn (n1 := 1) (ks := []) (idx := [0]) ⟨rfl, rfl, rfl, rfl, rfl⟩ hB hr (by decide) hgd (by rfl) (takes_of rfl rfl rfl rfl) (by decide) (fun _ _ _ _ _ _ us ws h1 h2 => match us, ws, h1, h2 with | [_], [], _, _ => rfl)) (sa_cons (se_lst (sa_cons (se_O hB.symm op_powD se_int se_int) sa_nil)) sa_nil)) se_int))))))))))))))
end
/-! ### the head -/
end Fx
namespace Fx
open PySem L2 PyProof.Rows
theorem all_mk {l : PySem.W.OpenLaw} {w : World} {K : PySem.W.Frag} {h : Heap} {mg : Str → Option Value} {fa : Addr} {qq : Program} (X : K.In h) (G : h.Ns mainGlobals mg) (hfa : mg "law" = some (.ref fa))
    (ib : PySem.W.specialIn K (.builtin "object.__class__") "__get__" = some (some (.builtin "getset_descriptor.__get__"))) (ic : PySem.W.takesIn K (.builtin "object.__class__") = some true)
    {f0 : Addr} {od0 an0 : Option Addr} {sl0 : Array (Option Value)} {oc0 kV0 dc0 pm0 cd0 ct0 : Value}
    (a0 : PySem.W.nsIn K mainGlobals "_law_well" = some (some (.ref f0))) (l0 : K.lookup f0 = some ⟨oc0, od0, .func (PySem.W.fnOf "_law_well" "_law_well" (defArgs s__law_well) (defBody s__law_well) (defScope s__law_well) .none kV0 dc0 pm0 an0 cd0 ct0), sl0⟩) (c0 : PySem.W.codeIn K cd0 "_law_well" = true) (k0 : PySem.W.keepIn K (.ref f0) = true)
    {f1 : Addr} {od1 an1 : Option Addr} {sl1 : Array (Option Value)} {oc1 kV1 dc1 pm1 cd1 ct1 : Value}
    (a1 : PySem.W.nsIn K mainGlobals "_law_draw" = some (some (.ref f1))) (l1 : K.lookup f1 = some ⟨oc1, od1, .func (PySem.W.fnOf "_law_draw" "_law_draw" (defArgs s__law_draw) (defBody s__law_draw) (defScope s__law_draw) .none kV1 dc1 pm1 an1 cd1 ct1), sl1⟩) (c1 : PySem.W.codeIn K cd1 "_law_draw" = true) (k1 : PySem.W.keepIn K (.ref f1) = true)
    {f2 : Addr} {od2 an2 : Option Addr} {sl2 : Array (Option Value)} {oc2 kV2 dc2 pm2 cd2 ct2 : Value}
    (a2 : PySem.W.nsIn K mainGlobals "_law_one" = some (some (.ref f2))) (l2 : K.lookup f2 = some ⟨oc2, od2, .func (PySem.W.fnOf "_law_one" "_law_one" (defArgs s__law_one) (defBody s__law_one) (defScope s__law_one) .none kV2 dc2 pm2 an2 cd2 ct2), sl2⟩) (c2 : PySem.W.codeIn K cd2 "_law_one" = true) (k2 : PySem.W.keepIn K (.ref f2) = true)
    {f3 : Addr} {od3 an3 : Option Addr} {sl3 : Array (Option Value)} {oc3 kV3 dc3 pm3 cd3 ct3 : Value}
    (a3 : PySem.W.nsIn K mainGlobals "_law_row" = some (some (.ref f3))) (l3 : K.lookup f3 = some ⟨oc3, od3, .func (PySem.W.fnOf "_law_row" "_law_row" (defArgs s__law_row) (defBody s__law_row) (defScope s__law_row) .none kV3 dc3 pm3 an3 cd3 ct3), sl3⟩) (c3 : PySem.W.codeIn K cd3 "_law_row" = true) (k3 : PySem.W.keepIn K (.ref f3) = true)
    {f4 : Addr} {od4 an4 : Option Addr} {sl4 : Array (Option Value)} {oc4 kV4 dc4 pm4 cd4 ct4 : Value}
    (a4 : PySem.W.nsIn K mainGlobals "_law_power" = some (some (.ref f4))) (l4 : K.lookup f4 = some ⟨oc4, od4, .func (PySem.W.fnOf "_law_power" "_law_power" (defArgs s__law_power) (defBody s__law_power) (defScope s__law_power) .none kV4 dc4 pm4 an4 cd4 ct4), sl4⟩) (c4 : PySem.W.codeIn K cd4 "_law_power" = true) (k4 : PySem.W.keepIn K (.ref f4) = true)
    {f5 : Addr} {od5 an5 : Option Addr} {sl5 : Array (Option Value)} {oc5 kV5 dc5 pm5 cd5 ct5 : Value}
    (a5 : PySem.W.nsIn K mainGlobals "_law_digits" = some (some (.ref f5))) (l5 : K.lookup f5 = some ⟨oc5, od5, .func (PySem.W.fnOf "_law_digits" "_law_digits" (defArgs s__law_digits) (defBody s__law_digits) (defScope s__law_digits) .none kV5 dc5 pm5 an5 cd5 ct5), sl5⟩) (c5 : PySem.W.codeIn K cd5 "_law_digits" = true) (k5 : PySem.W.keepIn K (.ref f5) = true)
    {f6 : Addr} {od6 an6 : Option Addr} {sl6 : Array (Option Value)} {oc6 kV6 dc6 pm6 cd6 ct6 : Value}
    (a6 : PySem.W.nsIn K mainGlobals "_law_low" = some (some (.ref f6))) (l6 : K.lookup f6 = some ⟨oc6, od6, .func (PySem.W.fnOf "_law_low" "_law_low" (defArgs s__law_low) (defBody s__law_low) (defScope s__law_low) .none kV6 dc6 pm6 an6 cd6 ct6), sl6⟩) (c6 : PySem.W.codeIn K cd6 "_law_low" = true) (k6 : PySem.W.keepIn K (.ref f6) = true)
    {f7 : Addr} {od7 an7 : Option Addr} {sl7 : Array (Option Value)} {oc7 kV7 dc7 pm7 cd7 ct7 : Value}
    (a7 : PySem.W.nsIn K mainGlobals "_law_gamma" = some (some (.ref f7))) (l7 : K.lookup f7 = some ⟨oc7, od7, .func (PySem.W.fnOf "_law_gamma" "_law_gamma" (defArgs s__law_gamma) (defBody s__law_gamma) (defScope s__law_gamma) .none kV7 dc7 pm7 an7 cd7 ct7), sl7⟩) (c7 : PySem.W.codeIn K cd7 "_law_gamma" = true) (k7 : PySem.W.keepIn K (.ref f7) = true)
    {f8 : Addr} {od8 an8 : Option Addr} {sl8 : Array (Option Value)} {oc8 kV8 dc8 pm8 cd8 ct8 : Value}
    (a8 : PySem.W.nsIn K mainGlobals "_law_rice" = some (some (.ref f8))) (l8 : K.lookup f8 = some ⟨oc8, od8, .func (PySem.W.fnOf "_law_rice" "_law_rice" (defArgs s__law_rice) (defBody s__law_rice) (defScope s__law_rice) .none kV8 dc8 pm8 an8 cd8 ct8), sl8⟩) (c8 : PySem.W.codeIn K cd8 "_law_rice" = true) (k8 : PySem.W.keepIn K (.ref f8) = true)
    {f9 : Addr} {od9 an9 : Option Addr} {sl9 : Array (Option Value)} {oc9 kV9 dc9 pm9 cd9 ct9 : Value}
    (a9 : PySem.W.nsIn K mainGlobals "_law_sizes" = some (some (.ref f9))) (l9 : K.lookup f9 = some ⟨oc9, od9, .func (PySem.W.fnOf "_law_sizes" "_law_sizes" (defArgs s__law_sizes) (defBody s__law_sizes) (defScope s__law_sizes) .none kV9 dc9 pm9 an9 cd9 ct9), sl9⟩) (c9 : PySem.W.codeIn K cd9 "_law_sizes" = true) (k9 : PySem.W.keepIn K (.ref f9) = true)
    {f10 : Addr} {od10 an10 : Option Addr} {sl10 : Array (Option Value)} {oc10 kV10 dc10 pm10 cd10 ct10 : Value}
    (a10 : PySem.W.nsIn K mainGlobals "is_list" = some (some (.ref f10))) (l10 : K.lookup f10 = some ⟨oc10, od10, .func (PySem.W.fnOf "is_list" "is_list" (defArgs s_is_list) (defBody s_is_list) (defScope s_is_list) .none kV10 dc10 pm10 an10 cd10 ct10), sl10⟩) (c10 : PySem.W.codeIn K cd10 "is_list" = true) (k10 : PySem.W.keepIn K (.ref f10) = true)
    {f11 : Addr} {od11 an11 : Option Addr} {sl11 : Array (Option Value)} {oc11 kV11 dc11 pm11 cd11 ct11 : Value}
    (a11 : PySem.W.nsIn K mainGlobals "is_integer" = some (some (.ref f11))) (l11 : K.lookup f11 = some ⟨oc11, od11, .func (PySem.W.fnOf "is_integer" "is_integer" (defArgs s_is_integer) (defBody s_is_integer) (defScope s_is_integer) .none kV11 dc11 pm11 an11 cd11 ct11), sl11⟩) (c11 : PySem.W.codeIn K cd11 "is_integer" = true) (k11 : PySem.W.keepIn K (.ref f11) = true)
    {f12 : Addr} {od12 an12 : Option Addr} {sl12 : Array (Option Value)} {oc12 kV12 dc12 pm12 cd12 ct12 : Value}
    (a12 : PySem.W.nsIn K mainGlobals "need_row" = some (some (.ref f12))) (l12 : K.lookup f12 = some ⟨oc12, od12, .func (PySem.W.fnOf "need_row" "need_row" (defArgs s_need_row) (defBody s_need_row) (defScope s_need_row) .none kV12 dc12 pm12 an12 cd12 ct12), sl12⟩) (c12 : PySem.W.codeIn K cd12 "need_row" = true) (k12 : PySem.W.keepIn K (.ref f12) = true)
    {f13 : Addr} {od13 an13 : Option Addr} {sl13 : Array (Option Value)} {oc13 kV13 dc13 pm13 cd13 ct13 : Value}
    (a13 : PySem.W.nsIn K mainGlobals "digits_in" = some (some (.ref f13))) (l13 : K.lookup f13 = some ⟨oc13, od13, .func (PySem.W.fnOf "digits_in" "digits_in" (defArgs s_digits_in) (defBody s_digits_in) (defScope s_digits_in) .none kV13 dc13 pm13 an13 cd13 ct13), sl13⟩) (c13 : PySem.W.codeIn K cd13 "digits_in" = true) (k13 : PySem.W.keepIn K (.ref f13) = true)
    {f14 : Addr} {od14 an14 : Option Addr} {sl14 : Array (Option Value)} {oc14 kV14 dc14 pm14 cd14 ct14 : Value}
    (a14 : PySem.W.nsIn K mainGlobals "gamma_size" = some (some (.ref f14))) (l14 : K.lookup f14 = some ⟨oc14, od14, .func (PySem.W.fnOf "gamma_size" "gamma_size" (defArgs s_gamma_size) (defBody s_gamma_size) (defScope s_gamma_size) .none kV14 dc14 pm14 an14 cd14 ct14), sl14⟩) (c14 : PySem.W.codeIn K cd14 "gamma_size" = true) (k14 : PySem.W.keepIn K (.ref f14) = true)
    {f15 : Addr} {od15 an15 : Option Addr} {sl15 : Array (Option Value)} {oc15 kV15 dc15 pm15 cd15 ct15 : Value}
    (a15 : PySem.W.nsIn K mainGlobals "size_by" = some (some (.ref f15))) (l15 : K.lookup f15 = some ⟨oc15, od15, .func (PySem.W.fnOf "size_by" "size_by" (defArgs s_size_by) (defBody s_size_by) (defScope s_size_by) .none kV15 dc15 pm15 an15 cd15 ct15), sl15⟩) (c15 : PySem.W.codeIn K cd15 "size_by" = true) (k15 : PySem.W.keepIn K (.ref f15) = true)
    {f16 : Addr} {od16 an16 : Option Addr} {sl16 : Array (Option Value)} {oc16 kV16 dc16 pm16 cd16 ct16 : Value}
    (a16 : PySem.W.nsIn K mainGlobals "least_parameter" = some (some (.ref f16))) (l16 : K.lookup f16 = some ⟨oc16, od16, .func (PySem.W.fnOf "least_parameter" "least_parameter" (defArgs s_least_parameter) (defBody s_least_parameter) (defScope s_least_parameter) .none kV16 dc16 pm16 an16 cd16 ct16), sl16⟩) (c16 : PySem.W.codeIn K cd16 "least_parameter" = true) (k16 : PySem.W.keepIn K (.ref f16) = true)
    {f17 : Addr} {od17 an17 : Option Addr} {sl17 : Array (Option Value)} {oc17 kV17 dc17 pm17 cd17 ct17 : Value}
    (a17 : PySem.W.nsIn K mainGlobals "best_parameter" = some (some (.ref f17))) (l17 : K.lookup f17 = some ⟨oc17, od17, .func (PySem.W.fnOf "best_parameter" "best_parameter" (defArgs s_best_parameter) (defBody s_best_parameter) (defScope s_best_parameter) .none kV17 dc17 pm17 an17 cd17 ct17), sl17⟩) (c17 : PySem.W.codeIn K cd17 "best_parameter" = true) (k17 : PySem.W.keepIn K (.ref f17) = true)
    {dT18 : Addr} {dt18_0 : Tok}
    {f18 : Addr} {od18 an18 : Option Addr} {sl18 : Array (Option Value)} {oc18 kV18 dc18 pm18 cd18 ct18 : Value}
    (a18 : PySem.W.nsIn K mainGlobals "need_natural" = some (some (.ref f18))) (l18 : K.lookup f18 = some ⟨oc18, od18, .func (PySem.W.fnOf "need_natural" "need_natural" (defArgs s_need_natural) (defBody s_need_natural) (defScope s_need_natural) (.ref dT18) kV18 dc18 pm18 an18 cd18 ct18), sl18⟩) (c18 : PySem.W.codeIn K cd18 "need_natural" = true) (k18 : PySem.W.keepIn K (.ref f18) = true)
    {dn18 : Nat} {dc18_ : Value} {dd18 : Option Addr} {ds18 : Array (Option Value)} (dl18 : K.lookup dT18 = some ⟨dc18_, dd18, .seq ([.str "number" dt18_0] : List Value).toArray dn18, ds18⟩)
    {f19 : Addr} {od19 an19 : Option Addr} {sl19 : Array (Option Value)} {oc19 kV19 dc19 pm19 cd19 ct19 : Value}
    (a19 : PySem.W.nsIn K mainGlobals "is_within" = some (some (.ref f19))) (l19 : K.lookup f19 = some ⟨oc19, od19, .func (PySem.W.fnOf "is_within" "is_within" (defArgs s_is_within) (defBody s_is_within) (defScope s_is_within) .none kV19 dc19 pm19 an19 cd19 ct19), sl19⟩) (c19 : PySem.W.codeIn K cd19 "is_within" = true) (k19 : PySem.W.keepIn K (.ref f19) = true)
    {f20 : Addr} {od20 an20 : Option Addr} {sl20 : Array (Option Value)} {oc20 kV20 dc20 pm20 cd20 ct20 : Value}
    (a20 : PySem.W.nsIn K mainGlobals "need_parameter" = some (some (.ref f20))) (l20 : K.lookup f20 = some ⟨oc20, od20, .func (PySem.W.fnOf "need_parameter" "need_parameter" (defArgs s_need_parameter) (defBody s_need_parameter) (defScope s_need_parameter) .none kV20 dc20 pm20 an20 cd20 ct20), sl20⟩) (c20 : PySem.W.codeIn K cd20 "need_parameter" = true) (k20 : PySem.W.keepIn K (.ref f20) = true)
    {f21 : Addr} {od21 an21 : Option Addr} {sl21 : Array (Option Value)} {oc21 kV21 dc21 pm21 cd21 ct21 : Value}
    (a21 : PySem.W.nsIn K mainGlobals "rice_size" = some (some (.ref f21))) (l21 : K.lookup f21 = some ⟨oc21, od21, .func (PySem.W.fnOf "rice_size" "rice_size" (defArgs s_rice_size) (defBody s_rice_size) (defScope s_rice_size) .none kV21 dc21 pm21 an21 cd21 ct21), sl21⟩) (c21 : PySem.W.codeIn K cd21 "rice_size" = true) (k21 : PySem.W.keepIn K (.ref f21) = true)
    {f22 : Addr} {od22 an22 : Option Addr} {sl22 : Array (Option Value)} {oc22 kV22 dc22 pm22 cd22 ct22 : Value}
    (a22 : PySem.W.nsIn K mainGlobals "lowest_bits" = some (some (.ref f22))) (l22 : K.lookup f22 = some ⟨oc22, od22, .func (PySem.W.fnOf "lowest_bits" "lowest_bits" (defArgs s_lowest_bits) (defBody s_lowest_bits) (defScope s_lowest_bits) .none kV22 dc22 pm22 an22 cd22 ct22), sl22⟩) (c22 : PySem.W.codeIn K cd22 "lowest_bits" = true) (k22 : PySem.W.keepIn K (.ref f22) = true)
    {f23 : Addr} {od23 an23 : Option Addr} {sl23 : Array (Option Value)} {oc23 kV23 dc23 pm23 cd23 ct23 : Value}
    (a23 : PySem.W.nsIn K mainGlobals "gamma_bits" = some (some (.ref f23))) (l23 : K.lookup f23 = some ⟨oc23, od23, .func (PySem.W.fnOf "gamma_bits" "gamma_bits" (defArgs s_gamma_bits) (defBody s_gamma_bits) (defScope s_gamma_bits) .none kV23 dc23 pm23 an23 cd23 ct23), sl23⟩) (c23 : PySem.W.codeIn K cd23 "gamma_bits" = true) (k23 : PySem.W.keepIn K (.ref f23) = true)
    {f24 : Addr} {od24 an24 : Option Addr} {sl24 : Array (Option Value)} {oc24 kV24 dc24 pm24 cd24 ct24 : Value}
    (a24 : PySem.W.nsIn K mainGlobals "rice_bits" = some (some (.ref f24))) (l24 : K.lookup f24 = some ⟨oc24, od24, .func (PySem.W.fnOf "rice_bits" "rice_bits" (defArgs s_rice_bits) (defBody s_rice_bits) (defScope s_rice_bits) .none kV24 dc24 pm24 an24 cd24 ct24), sl24⟩) (c24 : PySem.W.codeIn K cd24 "rice_bits" = true) (k24 : PySem.W.keepIn K (.ref f24) = true)
    {f25 : Addr} {od25 an25 : Option Addr} {sl25 : Array (Option Value)} {oc25 kV25 dc25 pm25 cd25 ct25 : Value}
    (a25 : PySem.W.nsIn K mainGlobals "rice" = some (some (.ref f25))) (l25 : K.lookup f25 = some ⟨oc25, od25, .func (PySem.W.fnOf "rice" "rice" (defArgs s_rice) (defBody s_rice) (defScope s_rice) .none kV25 dc25 pm25 an25 cd25 ct25), sl25⟩) (c25 : PySem.W.codeIn K cd25 "rice" = true) (k25 : PySem.W.keepIn K (.ref f25) = true)
    {f26 : Addr} {od26 an26 : Option Addr} {sl26 : Array (Option Value)} {oc26 kV26 dc26 pm26 cd26 ct26 : Value}
    (a26 : PySem.W.nsIn K mainGlobals "_law_right" = some (some (.ref f26))) (l26 : K.lookup f26 = some ⟨oc26, od26, .func (PySem.W.fnOf "_law_right" "_law_right" (defArgs s__law_right) (defBody s__law_right) (defScope s__law_right) .none kV26 dc26 pm26 an26 cd26 ct26), sl26⟩) (c26 : PySem.W.codeIn K cd26 "_law_right" = true) (k26 : PySem.W.keepIn K (.ref f26) = true)
    {f27 : Addr} {od27 an27 : Option Addr} {sl27 : Array (Option Value)} {oc27 kV27 dc27 pm27 cd27 ct27 : Value}
    (a27 : PySem.W.nsIn K mainGlobals "_law_heard" = some (some (.ref f27))) (l27 : K.lookup f27 = some ⟨oc27, od27, .func (PySem.W.fnOf "_law_heard" "_law_heard" (defArgs s__law_heard) (defBody s__law_heard) (defScope s__law_heard) .none kV27 dc27 pm27 an27 cd27 ct27), sl27⟩) (c27 : PySem.W.codeIn K cd27 "_law_heard" = true) (k27 : PySem.W.keepIn K (.ref f27) = true)
    {lc28 P28 : Addr}
    {f28 : Addr} {od28 an28 : Option Addr} {sl28 : Array (Option Value)} {oc28 kV28 dc28 pm28 ct28 : Value}
    (a28 : PySem.W.nsIn K mainGlobals "_law_refused_right" = some (some (.ref f28))) (l28 : K.lookup f28 = some ⟨oc28, od28, .func (PySem.W.fnOf "_law_refused_right" "_law_refused_right" (defArgs s__law_refused_right) (defBody s__law_refused_right) (defScope s__law_refused_right) .none kV28 dc28 pm28 an28 (.ref lc28) ct28), sl28⟩) (c28 : PySem.W.codeIn K (.ref lc28) "_law_refused_right" = true) (k28 : PySem.W.keepIn K (.ref f28) = true)
    {tq28 : Value} {tr28 : Option Addr} {tv28 : Array Value} {ts28 : Array (Option Value)} (tl28 : K.lookup lc28 = some ⟨tq28, tr28, .fields tv28, ts28⟩) (tp28 : (tv28[11]? : Option Value) = some (.ref P28)) (tn28 : K.lookup P28 = none) (tb28 : ((recsOf qq).any fun e => e.name == ("_law_refused_right" : Str)) = true)
    {f29 : Addr} {od29 an29 : Option Addr} {sl29 : Array (Option Value)} {oc29 kV29 dc29 pm29 cd29 ct29 : Value}
    (a29 : PySem.W.nsIn K mainGlobals "law" = some (some (.ref f29))) (l29 : K.lookup f29 = some ⟨oc29, od29, .func (PySem.W.fnOf "law" "law" (defArgs s_law) (defBody s_law) (defScope s_law) .none kV29 dc29 pm29 an29 cd29 ct29), sl29⟩) (c29 : PySem.W.codeIn K cd29 "law" = true) (k29 : PySem.W.keepIn K (.ref f29) = true)
    (z0 : PySem.W.nsIn K mainGlobals "abs" = some none)
    (z1 : PySem.W.nsIn K mainGlobals "bool" = some none)
    (z2 : PySem.W.nsIn K mainGlobals "enumerate" = some none)
    (z3 : PySem.W.nsIn K mainGlobals "int" = some none)
    (z4 : PySem.W.nsIn K mainGlobals "isinstance" = some none)
    (z5 : PySem.W.nsIn K mainGlobals "len" = some none)
    (z6 : PySem.W.nsIn K mainGlobals "list" = some none)
    (z7 : PySem.W.nsIn K mainGlobals "min" = some none)
    (z8 : PySem.W.nsIn K mainGlobals "range" = some none)
    (z9 : PySem.W.nsIn K mainGlobals "repr" = some none)
    (z10 : PySem.W.nsIn K mainGlobals "sum" = some none)
    (z11 : PySem.W.nsIn K mainGlobals "tuple" = some none)
    (z12 : PySem.W.nsIn K mainGlobals "zip" = some none)
    {tc0 : Tok} (v0 : PySem.W.nsIn K mainGlobals "MOST_ONES" = some (some (.int 16 tc0)))
    {tc1 : Tok} (v1 : PySem.W.nsIn K mainGlobals "MOST_PARAMETER" = some (some (.int 20 tc1)))
    {E_BadBits : Addr} (xe_BadBits : PySem.W.nsIn K mainGlobals "BadBits" = some (some (.ref E_BadBits))) (ek_BadBits : PySem.W.isClsIn K E_BadBits = true) (et_BadBits : PySem.W.typeIn K (.ref E_BadBits) = some (.type "type"))
    {E_BadBlock : Addr} (xe_BadBlock : PySem.W.nsIn K mainGlobals "BadBlock" = some (some (.ref E_BadBlock))) (ek_BadBlock : PySem.W.isClsIn K E_BadBlock = true) (et_BadBlock : PySem.W.typeIn K (.ref E_BadBlock) = some (.type "type"))
    {E_BadCode : Addr} (xe_BadCode : PySem.W.nsIn K mainGlobals "BadCode" = some (some (.ref E_BadCode))) (ek_BadCode : PySem.W.isClsIn K E_BadCode = true) (et_BadCode : PySem.W.typeIn K (.ref E_BadCode) = some (.type "type"))
    {E_BadNumber : Addr} (xe_BadNumber : PySem.W.nsIn K mainGlobals "BadNumber" = some (some (.ref E_BadNumber))) (ek_BadNumber : PySem.W.isClsIn K E_BadNumber = true) (et_BadNumber : PySem.W.typeIn K (.ref E_BadNumber) = some (.type "type"))
    {E_BadRow : Addr} (xe_BadRow : PySem.W.nsIn K mainGlobals "BadRow" = some (some (.ref E_BadRow))) (ek_BadRow : PySem.W.isClsIn K E_BadRow = true) (et_BadRow : PySem.W.typeIn K (.ref E_BadRow) = some (.type "type"))
    {E_BadStream : Addr} (xe_BadStream : PySem.W.nsIn K mainGlobals "BadStream" = some (some (.ref E_BadStream))) (ek_BadStream : PySem.W.isClsIn K E_BadStream = true) (et_BadStream : PySem.W.typeIn K (.ref E_BadStream) = some (.type "type"))
    {E_Misfit : Addr} (xe_Misfit : PySem.W.nsIn K mainGlobals "Misfit" = some (some (.ref E_Misfit))) (ek_Misfit : PySem.W.isClsIn K E_Misfit = true) (et_Misfit : PySem.W.typeIn K (.ref E_Misfit) = some (.type "type"))
    {E_Nothing : Addr} (xe_Nothing : PySem.W.nsIn K mainGlobals "Nothing" = some (some (.ref E_Nothing))) (ek_Nothing : PySem.W.isClsIn K E_Nothing = true) (et_Nothing : PySem.W.typeIn K (.ref E_Nothing) = some (.type "type"))
    {E_SaveError : Addr} (xe_SaveError : PySem.W.nsIn K mainGlobals "SaveError" = some (some (.ref E_SaveError))) (ek_SaveError : PySem.W.isClsIn K E_SaveError = true) (et_SaveError : PySem.W.typeIn K (.ref E_SaveError) = some (.type "type"))
    {E_TooMany : Addr} (xe_TooMany : PySem.W.nsIn K mainGlobals "TooMany" = some (some (.ref E_TooMany))) (ek_TooMany : PySem.W.isClsIn K E_TooMany = true) (et_TooMany : PySem.W.typeIn K (.ref E_TooMany) = some (.type "type"))
    (ga_BadNumber : PySem.W.findIn K (.ref E_BadNumber) "__getattribute__" = some (some (.builtin "BaseException.__getattribute__"))) (gg_BadNumber : PySem.W.findIn K (.ref E_BadNumber) "__getattr__" = some none) (bs_BadNumber : PySem.W.subIn K (.ref E_BadNumber) (.type "BaseException") = some true) (hd_BadNumber : PySem.W.hasDictIn K E_BadNumber = true) (ca_BadNumber : PySem.W.findIn K (.ref E_BadNumber) "__class__" = some (some (.builtin "object.__class__"))) (mo_BadNumber : PySem.W.mroIn K E_BadNumber (.type "object") = some true) {cd_BadNumber : ClassData} (cl_BadNumber : PySem.W.clsIn K E_BadNumber = some cd_BadNumber)
    (ga_BadRow : PySem.W.findIn K (.ref E_BadRow) "__getattribute__" = some (some (.builtin "BaseException.__getattribute__"))) (gg_BadRow : PySem.W.findIn K (.ref E_BadRow) "__getattr__" = some none) (bs_BadRow : PySem.W.subIn K (.ref E_BadRow) (.type "BaseException") = some true) (hd_BadRow : PySem.W.hasDictIn K E_BadRow = true) (ca_BadRow : PySem.W.findIn K (.ref E_BadRow) "__class__" = some (some (.builtin "object.__class__"))) (mo_BadRow : PySem.W.mroIn K E_BadRow (.type "object") = some true) {cd_BadRow : ClassData} (cl_BadRow : PySem.W.clsIn K E_BadRow = some cd_BadRow)
    (st0 : PySem.W.nsIn K PySem.cStatics "thirdparty.any" = some none) (zs0 : PySem.W.nsIn K mainGlobals "super" = some none) (tp0 : (l.prog.main.scope.names.lookup ("super" : Str)).isSome = false)
    {nm_BadNumber qn_BadNumber : Str} {N_BadNumber : Addr} {bb_BadNumber bm_BadNumber sb_BadNumber : List Value} {sn_BadNumber : List Str} {ab_BadNumber : Bool} {co_BadNumber : Option Bool} {de_BadNumber : Option Addr} {k0_BadNumber k1_BadNumber k2_BadNumber k3_BadNumber k5_BadNumber : Option Value} (lc_BadNumber : K.lookup E_BadNumber = some (excClassObj nm_BadNumber qn_BadNumber E_BadNumber N_BadNumber bb_BadNumber bm_BadNumber true sn_BadNumber sb_BadNumber ab_BadNumber co_BadNumber de_BadNumber k0_BadNumber k1_BadNumber k2_BadNumber k3_BadNumber k5_BadNumber "ValueError.__new__")) (rv_BadNumber : PySem.HandSPX.refsVE bm_BadNumber = true) (sa_BadNumber : PySem.W.findIn K (.ref E_BadNumber) "__setattr__" = some (some (.builtin "object.__setattr__"))) (kp_BadNumber : PySem.W.keepIn K (.ref E_BadNumber) = true) {F_BadNumber : Addr} (in_BadNumber : PySem.W.findIn K (.ref E_BadNumber) "__init__" = some (some (.ref F_BadNumber))) (ti_BadNumber : PySem.W.typeIn K (.ref F_BadNumber) = some (.type "function")) {oc_BadNumber kV_BadNumber dc_BadNumber pm_BadNumber ct_BadNumber : Value} {od_BadNumber an_BadNumber : Option Addr} {sl_BadNumber : Array (Option Value)} {da_BadNumber ce_BadNumber : Addr} (lk_BadNumber : K.lookup F_BadNumber = some ⟨oc_BadNumber, od_BadNumber, .func (PySem.W.ksFn "__init__" "BadNumber.__init__" (defArgs sx_BadNumber) (defBody sx_BadNumber) (defScope sx_BadNumber) .none kV_BadNumber dc_BadNumber pm_BadNumber an_BadNumber (.ref da_BadNumber) ct_BadNumber ce_BadNumber), sl_BadNumber⟩) (cc_BadNumber : PySem.W.codeIn K (.ref da_BadNumber) "BadNumber.__init__" = true) {o2_BadNumber : Value} {d2_BadNumber : Option Addr} {s2_BadNumber : Array (Option Value)} (le_BadNumber : K.lookup ce_BadNumber = some ⟨o2_BadNumber, d2_BadNumber, .cell (some (.ref E_BadNumber)), s2_BadNumber⟩) {o3_BadNumber : Value} {d3_BadNumber : Option Addr} {vs_BadNumber : Array Value} {s3_BadNumber : Array (Option Value)} {fi_BadNumber : Str} {tf_BadNumber : Tok} (ld_BadNumber : K.lookup da_BadNumber = some ⟨o3_BadNumber, d3_BadNumber, .fields vs_BadNumber, s3_BadNumber⟩) (hv_BadNumber : (vs_BadNumber[2]? : Option Value) = some (.str fi_BadNumber tf_BadNumber)) (hf_BadNumber : ((l.prog.main.file : Str) == fi_BadNumber) = true) (mr_BadNumber : PySem.W.mroIn K E_BadNumber (.ref E_BadNumber) = some true) (al_BadNumber : PySem.W.alongIn K "__init__" ((cd_BadNumber.mro.dropWhile (· != .ref E_BadNumber)).drop 1) = some (some (.builtin "ValueError.__init__"))) (vv_BadNumber : PySem.W.subIn K (.ref E_BadNumber) (.type "ValueError") = some true)
    {nm_BadRow qn_BadRow : Str} {N_BadRow : Addr} {bb_BadRow bm_BadRow sb_BadRow : List Value} {sn_BadRow : List Str} {ab_BadRow : Bool} {co_BadRow : Option Bool} {de_BadRow : Option Addr} {k0_BadRow k1_BadRow k2_BadRow k3_BadRow k5_BadRow : Option Value} (lc_BadRow : K.lookup E_BadRow = some (excClassObj nm_BadRow qn_BadRow E_BadRow N_BadRow bb_BadRow bm_BadRow true sn_BadRow sb_BadRow ab_BadRow co_BadRow de_BadRow k0_BadRow k1_BadRow k2_BadRow k3_BadRow k5_BadRow "ValueError.__new__")) (rv_BadRow : PySem.HandSPX.refsVE bm_BadRow = true) (sa_BadRow : PySem.W.findIn K (.ref E_BadRow) "__setattr__" = some (some (.builtin "object.__setattr__"))) (kp_BadRow : PySem.W.keepIn K (.ref E_BadRow) = true) {F_BadRow : Addr} (in_BadRow : PySem.W.findIn K (.ref E_BadRow) "__init__" = some (some (.ref F_BadRow))) (ti_BadRow : PySem.W.typeIn K (.ref F_BadRow) = some (.type "function")) {oc_BadRow kV_BadRow dc_BadRow pm_BadRow ct_BadRow : Value} {od_BadRow an_BadRow : Option Addr} {sl_BadRow : Array (Option Value)} {da_BadRow ce_BadRow : Addr} (lk_BadRow : K.lookup F_BadRow = some ⟨oc_BadRow, od_BadRow, .func (PySem.W.ksFn "__init__" "BadRow.__init__" (defArgs sx_BadRow) (defBody sx_BadRow) (defScope sx_BadRow) .none kV_BadRow dc_BadRow pm_BadRow an_BadRow (.ref da_BadRow) ct_BadRow ce_BadRow), sl_BadRow⟩) (cc_BadRow : PySem.W.codeIn K (.ref da_BadRow) "BadRow.__init__" = true) {o2_BadRow : Value} {d2_BadRow : Option Addr} {s2_BadRow : Array (Option Value)} (le_BadRow : K.lookup ce_BadRow = some ⟨o2_BadRow, d2_BadRow, .cell (some (.ref E_BadRow)), s2_BadRow⟩) {o3_BadRow : Value} {d3_BadRow : Option Addr} {vs_BadRow : Array Value} {s3_BadRow : Array (Option Value)} {fi_BadRow : Str} {tf_BadRow : Tok} (ld_BadRow : K.lookup da_BadRow = some ⟨o3_BadRow, d3_BadRow, .fields vs_BadRow, s3_BadRow⟩) (hv_BadRow : (vs_BadRow[2]? : Option Value) = some (.str fi_BadRow tf_BadRow)) (hf_BadRow : ((l.prog.main.file : Str) == fi_BadRow) = true) (mr_BadRow : PySem.W.mroIn K E_BadRow (.ref E_BadRow) = some true) (al_BadRow : PySem.W.alongIn K "__init__" ((cd_BadRow.mro.dropWhile (· != .ref E_BadRow)).drop 1) = some (some (.builtin "ValueError.__init__"))) (vv_BadRow : PySem.W.subIn K (.ref E_BadRow) (.type "ValueError") = some true)
    (nf_BadNumber_part : PySem.W.findIn K (.ref E_BadNumber) "part" = some none)
    (nf_BadRow_at : PySem.W.findIn K (.ref E_BadRow) "at" = some none)
    (kn_BadBits_BadNumber : (Value.ref E_BadNumber == Value.ref E_BadBits) = false) (km_BadBits_BadNumber : PySem.W.mroIn K E_BadNumber (.ref E_BadBits) = some false)
    (kn_BadBits_BadRow : (Value.ref E_BadRow == Value.ref E_BadBits) = false) (km_BadBits_BadRow : PySem.W.mroIn K E_BadRow (.ref E_BadBits) = some false)
    (kn_BadBlock_BadNumber : (Value.ref E_BadNumber == Value.ref E_BadBlock) = false) (km_BadBlock_BadNumber : PySem.W.mroIn K E_BadNumber (.ref E_BadBlock) = some false)
    (kn_BadBlock_BadRow : (Value.ref E_BadRow == Value.ref E_BadBlock) = false) (km_BadBlock_BadRow : PySem.W.mroIn K E_BadRow (.ref E_BadBlock) = some false)
    (kn_BadCode_BadNumber : (Value.ref E_BadNumber == Value.ref E_BadCode) = false) (km_BadCode_BadNumber : PySem.W.mroIn K E_BadNumber (.ref E_BadCode) = some false)
    (kn_BadCode_BadRow : (Value.ref E_BadRow == Value.ref E_BadCode) = false) (km_BadCode_BadRow : PySem.W.mroIn K E_BadRow (.ref E_BadCode) = some false)
    (kn_BadNumber_BadRow : (Value.ref E_BadRow == Value.ref E_BadNumber) = false) (km_BadNumber_BadRow : PySem.W.mroIn K E_BadRow (.ref E_BadNumber) = some false)
    (kn_BadRow_BadNumber : (Value.ref E_BadNumber == Value.ref E_BadRow) = false) (km_BadRow_BadNumber : PySem.W.mroIn K E_BadNumber (.ref E_BadRow) = some false)
    (kn_BadStream_BadNumber : (Value.ref E_BadNumber == Value.ref E_BadStream) = false) (km_BadStream_BadNumber : PySem.W.mroIn K E_BadNumber (.ref E_BadStream) = some false)
    (kn_BadStream_BadRow : (Value.ref E_BadRow == Value.ref E_BadStream) = false) (km_BadStream_BadRow : PySem.W.mroIn K E_BadRow (.ref E_BadStream) = some false)
    (kn_Misfit_BadNumber : (Value.ref E_BadNumber == Value.ref E_Misfit) = false) (km_Misfit_BadNumber : PySem.W.mroIn K E_BadNumber (.ref E_Misfit) = some false)
    (kn_Misfit_BadRow : (Value.ref E_BadRow == Value.ref E_Misfit) = false) (km_Misfit_BadRow : PySem.W.mroIn K E_BadRow (.ref E_Misfit) = some false)
    (kn_Nothing_BadNumber : (Value.ref E_BadNumber == Value.ref E_Nothing) = false) (km_Nothing_BadNumber : PySem.W.mroIn K E_BadNumber (.ref E_Nothing) = some false)
    (kn_Nothing_BadRow : (Value.ref E_BadRow == Value.ref E_Nothing) = false) (km_Nothing_BadRow : PySem.W.mroIn K E_BadRow (.ref E_Nothing) = some false)
    (kn_TooMany_BadNumber : (Value.ref E_BadNumber == Value.ref E_TooMany) = false) (km_TooMany_BadNumber : PySem.W.mroIn K E_BadNumber (.ref E_TooMany) = some false)
    (kn_TooMany_BadRow : (Value.ref E_BadRow == Value.ref E_TooMany) = false) (km_TooMany_BadRow : PySem.W.mroIn K E_BadRow (.ref E_TooMany) = some false)
    (bs_SaveError : PySem.W.subIn K (.ref E_SaveError) (.type "BaseException") = some true)
    (su_SaveError_BadNumber : PySem.W.subIn K (.ref E_BadNumber) (.ref E_SaveError) = some true)
    (su_SaveError_BadRow : PySem.W.subIn K (.ref E_BadRow) (.ref E_SaveError) = some true)
    (pnd : ([P28] : List Addr).Nodup)
    : ∃ (cs : List (Addr × Addr × Str)) (fd : FuncData), (∀ p ∈ cs, K.lookup p.2.1 = none ∧ ∃ y : Str, ((recsOf qq).any fun e => e.name == y) = true ∧ PySem.W.tabIn K y = some (p.1, p.2.1)) ∧ (∀ (s : Shared) (v : Value), BindsTo s fd ⟨[v], []⟩ [("script", v)]) ∧ ∀ base : Heap, K.In base → base.Ns mainGlobals mg → (∀ p ∈ cs, LamX.TabB base mg p.1 p.2.1) → FnG l.prog w K mg base 9 fa fd ["script"] (@spF ⟨cs.map (·.2)⟩ K false 1 F_law) := by
  have e := hfa.symm.trans (PySem.W.mg_of X G a29)
  cases e
  refine ⟨[(lc28, P28, (envOfC "_law_refused_right" (defScope s__law_refused_right) 0 0 .none).qual ++ "<lambda>")], PySem.W.fnOf "law" "law" (defArgs s_law) (defBody s_law) (defScope s_law) .none kV29 dc29 pm29 an29 cd29 ct29, ?_, fun s v => .of_eq rfl, fun base kb _ TB => ?_⟩
  · intro p hp
    simp only [List.mem_cons, List.not_mem_nil, or_false] at hp
    rcases hp with rfl
    · exact ⟨tn28, _, tb28, tabIn_of a28 l28 rfl tl28 tp28⟩
  letI : Tbl := ⟨([(lc28, P28, (envOfC "_law_refused_right" (defScope s__law_refused_right) 0 0 .none).qual ++ "<lambda>")] : List (Addr × Addr × Str)).map (·.2)⟩
  have T : Txt l.prog K mg base := ⟨kb,
    ⟨⟨_, _, fun_mk (st := s__law_well) l0 c0 k0, PySem.W.mg_of X G a0⟩⟩,
    ⟨⟨_, _, fun_mk (st := s__law_draw) l1 c1 k1, PySem.W.mg_of X G a1⟩⟩,
    ⟨⟨_, _, fun_mk (st := s__law_one) l2 c2 k2, PySem.W.mg_of X G a2⟩⟩,
    ⟨⟨_, _, fun_mk (st := s__law_row) l3 c3 k3, PySem.W.mg_of X G a3⟩⟩,
    ⟨⟨_, _, fun_mk (st := s__law_power) l4 c4 k4, PySem.W.mg_of X G a4⟩⟩,
    ⟨⟨_, _, fun_mk (st := s__law_digits) l5 c5 k5, PySem.W.mg_of X G a5⟩⟩,
    ⟨⟨_, _, fun_mk (st := s__law_low) l6 c6 k6, PySem.W.mg_of X G a6⟩⟩,
    ⟨⟨_, _, fun_mk (st := s__law_gamma) l7 c7 k7, PySem.W.mg_of X G a7⟩⟩,
    ⟨⟨_, _, fun_mk (st := s__law_rice) l8 c8 k8, PySem.W.mg_of X G a8⟩⟩,
    ⟨⟨_, _, fun_mk (st := s__law_sizes) l9 c9 k9, PySem.W.mg_of X G a9⟩⟩,
    ⟨⟨_, _, fun_mk (st := s_is_list) l10 c10 k10, PySem.W.mg_of X G a10⟩⟩,
    ⟨⟨_, _, fun_mk (st := s_is_integer) l11 c11 k11, PySem.W.mg_of X G a11⟩⟩,
    ⟨⟨_, _, fun_mk (st := s_need_row) l12 c12 k12, PySem.W.mg_of X G a12⟩⟩,
    ⟨⟨_, _, fun_mk (st := s_digits_in) l13 c13 k13, PySem.W.mg_of X G a13⟩⟩,
    ⟨⟨_, _, fun_mk (st := s_gamma_size) l14 c14 k14, PySem.W.mg_of X G a14⟩⟩,
    ⟨⟨_, _, fun_mk (st := s_size_by) l15 c15 k15, PySem.W.mg_of X G a15⟩⟩,
    ⟨⟨_, _, fun_mk (st := s_least_parameter) l16 c16 k16, PySem.W.mg_of X G a16⟩⟩,
    ⟨⟨_, _, fun_mk (st := s_best_parameter) l17 c17 k17, PySem.W.mg_of X G a17⟩⟩,
    ⟨⟨_, _, _, fnD_by (st := s_need_natural) (dvs := [(.str "number")]) l18 c18 k18 dl18 (by simp) (.cons ⟨_, rfl⟩ (.nil)) (fun _ _ => .cons (.str _) (.nil)), PySem.W.mg_of X G a18⟩⟩,
    ⟨⟨_, _, fun_mk (st := s_is_within) l19 c19 k19, PySem.W.mg_of X G a19⟩⟩,
    ⟨⟨_, _, fun_mk (st := s_need_parameter) l20 c20 k20, PySem.W.mg_of X G a20⟩⟩,
    ⟨⟨_, _, fun_mk (st := s_rice_size) l21 c21 k21, PySem.W.mg_of X G a21⟩⟩,
    ⟨⟨_, _, fun_mk (st := s_lowest_bits) l22 c22 k22, PySem.W.mg_of X G a22⟩⟩,
    ⟨⟨_, _, fun_mk (st := s_gamma_bits) l23 c23 k23, PySem.W.mg_of X G a23⟩⟩,
    ⟨⟨_, _, fun_mk (st := s_rice_bits) l24 c24 k24, PySem.W.mg_of X G a24⟩⟩,
    ⟨⟨_, _, fun_mk (st := s_rice) l25 c25 k25, PySem.W.mg_of X G a25⟩⟩,
    ⟨⟨_, _, fun_mk (st := s__law_right) l26 c26 k26, PySem.W.mg_of X G a26⟩⟩,
    ⟨⟨_, _, fun_mk (st := s__law_heard) l27 c27 k27, PySem.W.mg_of X G a27⟩⟩,
    ⟨⟨_, _, fun_mk (st := s__law_refused_right) l28 c28 k28, PySem.W.mg_of X G a28, lam_at (c := lc28) (P := P28) TB pnd (by simp)⟩⟩,
    ⟨⟨_, _, fun_mk (st := s_law) l29 c29 k29, PySem.W.mg_of X G a29⟩⟩,
    PySem.W.mg_none_of X G z0,
    PySem.W.mg_none_of X G z1,
    PySem.W.mg_none_of X G z2,
    PySem.W.mg_none_of X G z3,
    PySem.W.mg_none_of X G z4,
    PySem.W.mg_none_of X G z5,
    PySem.W.mg_none_of X G z6,
    PySem.W.mg_none_of X G z7,
    PySem.W.mg_none_of X G z8,
    PySem.W.mg_none_of X G z9,
    PySem.W.mg_none_of X G z10,
    PySem.W.mg_none_of X G z11,
    PySem.W.mg_none_of X G z12,
    Cn.int (PySem.W.mg_of X G v0),
    Cn.int (PySem.W.mg_of X G v1),
    ⟨⟨E_BadNumber, F_BadNumber, da_BadNumber, ce_BadNumber, _, xe_BadNumber, PySem.W.mg_of X G xe_BadNumber, ⟨⟨nm_BadNumber, qn_BadNumber, N_BadNumber, bb_BadNumber, bm_BadNumber, sn_BadNumber, sb_BadNumber, ab_BadNumber, co_BadNumber, de_BadNumber, k0_BadNumber, k1_BadNumber, k2_BadNumber, k3_BadNumber, k5_BadNumber, lc_BadNumber, rv_BadNumber⟩, sa_BadNumber, bs_BadNumber, et_BadNumber, kp_BadNumber⟩, in_BadNumber, ti_BadNumber, ⟨_, _, _, _, _, _, _, _, rfl, lk_BadNumber⟩, cc_BadNumber, ⟨_, _, _, le_BadNumber⟩, ⟨_, _, _, _, _, _, ld_BadNumber, hv_BadNumber, hf_BadNumber⟩, by rw [cl_BadNumber]; rfl, mr_BadNumber, superIn_of cl_BadNumber al_BadNumber, vv_BadNumber, st0, (fun f hf => by simp only [List.mem_cons, List.not_mem_nil, or_false] at hf; rcases hf with rfl <;> first | exact nf_BadNumber_part)⟩, PySem.W.mg_none_of X G zs0, tp0⟩,
    ⟨⟨E_BadRow, F_BadRow, da_BadRow, ce_BadRow, _, xe_BadRow, PySem.W.mg_of X G xe_BadRow, ⟨⟨nm_BadRow, qn_BadRow, N_BadRow, bb_BadRow, bm_BadRow, sn_BadRow, sb_BadRow, ab_BadRow, co_BadRow, de_BadRow, k0_BadRow, k1_BadRow, k2_BadRow, k3_BadRow, k5_BadRow, lc_BadRow, rv_BadRow⟩, sa_BadRow, bs_BadRow, et_BadRow, kp_BadRow⟩, in_BadRow, ti_BadRow, ⟨_, _, _, _, _, _, _, _, rfl, lk_BadRow⟩, cc_BadRow, ⟨_, _, _, le_BadRow⟩, ⟨_, _, _, _, _, _, ld_BadRow, hv_BadRow, hf_BadRow⟩, by rw [cl_BadRow]; rfl, mr_BadRow, superIn_of cl_BadRow al_BadRow, vv_BadRow, st0, (fun f hf => by simp only [List.mem_cons, List.not_mem_nil, or_false] at hf; rcases hf with rfl <;> first | exact nf_BadRow_at)⟩, PySem.W.mg_none_of X G zs0, tp0⟩,
    .mk' (PySem.W.mg_of X G xe_BadBits) (fun n hn => by cases hn) (fun n hn => by simp only [List.mem_cons, List.not_mem_nil, or_false] at hn; rcases hn with rfl | rfl <;> first | exact ⟨_, (⟨xe_BadNumber, by rw [cl_BadNumber]; rfl, ⟨ga_BadNumber, gg_BadNumber, bs_BadNumber, hd_BadNumber, ca_BadNumber, ib, ic, mo_BadNumber⟩⟩ : XCls K "BadNumber" E_BadNumber), kit_other ek_BadBits et_BadBits kn_BadBits_BadNumber km_BadBits_BadNumber⟩ | exact ⟨_, (⟨xe_BadRow, by rw [cl_BadRow]; rfl, ⟨ga_BadRow, gg_BadRow, bs_BadRow, hd_BadRow, ca_BadRow, ib, ic, mo_BadRow⟩⟩ : XCls K "BadRow" E_BadRow), kit_other ek_BadBits et_BadBits kn_BadBits_BadRow km_BadBits_BadRow⟩) (kit_all ek_BadBits et_BadBits),
    .mk' (PySem.W.mg_of X G xe_BadBlock) (fun n hn => by cases hn) (fun n hn => by simp only [List.mem_cons, List.not_mem_nil, or_false] at hn; rcases hn with rfl | rfl <;> first | exact ⟨_, (⟨xe_BadNumber, by rw [cl_BadNumber]; rfl, ⟨ga_BadNumber, gg_BadNumber, bs_BadNumber, hd_BadNumber, ca_BadNumber, ib, ic, mo_BadNumber⟩⟩ : XCls K "BadNumber" E_BadNumber), kit_other ek_BadBlock et_BadBlock kn_BadBlock_BadNumber km_BadBlock_BadNumber⟩ | exact ⟨_, (⟨xe_BadRow, by rw [cl_BadRow]; rfl, ⟨ga_BadRow, gg_BadRow, bs_BadRow, hd_BadRow, ca_BadRow, ib, ic, mo_BadRow⟩⟩ : XCls K "BadRow" E_BadRow), kit_other ek_BadBlock et_BadBlock kn_BadBlock_BadRow km_BadBlock_BadRow⟩) (kit_all ek_BadBlock et_BadBlock),
    .mk' (PySem.W.mg_of X G xe_BadCode) (fun n hn => by cases hn) (fun n hn => by simp only [List.mem_cons, List.not_mem_nil, or_false] at hn; rcases hn with rfl | rfl <;> first | exact ⟨_, (⟨xe_BadNumber, by rw [cl_BadNumber]; rfl, ⟨ga_BadNumber, gg_BadNumber, bs_BadNumber, hd_BadNumber, ca_BadNumber, ib, ic, mo_BadNumber⟩⟩ : XCls K "BadNumber" E_BadNumber), kit_other ek_BadCode et_BadCode kn_BadCode_BadNumber km_BadCode_BadNumber⟩ | exact ⟨_, (⟨xe_BadRow, by rw [cl_BadRow]; rfl, ⟨ga_BadRow, gg_BadRow, bs_BadRow, hd_BadRow, ca_BadRow, ib, ic, mo_BadRow⟩⟩ : XCls K "BadRow" E_BadRow), kit_other ek_BadCode et_BadCode kn_BadCode_BadRow km_BadCode_BadRow⟩) (kit_all ek_BadCode et_BadCode),
    .mk' (PySem.W.mg_of X G xe_BadNumber) (fun n hn => by rw [List.mem_singleton.mp hn]; exact ⟨_, (⟨xe_BadNumber, by rw [cl_BadNumber]; rfl, ⟨ga_BadNumber, gg_BadNumber, bs_BadNumber, hd_BadNumber, ca_BadNumber, ib, ic, mo_BadNumber⟩⟩ : XCls K "BadNumber" E_BadNumber), kit_self⟩) (fun n hn => by simp only [List.mem_cons, List.not_mem_nil, or_false] at hn; rcases hn with rfl <;> first | exact ⟨_, (⟨xe_BadRow, by rw [cl_BadRow]; rfl, ⟨ga_BadRow, gg_BadRow, bs_BadRow, hd_BadRow, ca_BadRow, ib, ic, mo_BadRow⟩⟩ : XCls K "BadRow" E_BadRow), kit_other ek_BadNumber et_BadNumber kn_BadNumber_BadRow km_BadNumber_BadRow⟩) (kit_all ek_BadNumber et_BadNumber),
    .mk' (PySem.W.mg_of X G xe_BadRow) (fun n hn => by rw [List.mem_singleton.mp hn]; exact ⟨_, (⟨xe_BadRow, by rw [cl_BadRow]; rfl, ⟨ga_BadRow, gg_BadRow, bs_BadRow, hd_BadRow, ca_BadRow, ib, ic, mo_BadRow⟩⟩ : XCls K "BadRow" E_BadRow), kit_self⟩) (fun n hn => by simp only [List.mem_cons, List.not_mem_nil, or_false] at hn; rcases hn with rfl <;> first | exact ⟨_, (⟨xe_BadNumber, by rw [cl_BadNumber]; rfl, ⟨ga_BadNumber, gg_BadNumber, bs_BadNumber, hd_BadNumber, ca_BadNumber, ib, ic, mo_BadNumber⟩⟩ : XCls K "BadNumber" E_BadNumber), kit_other ek_BadRow et_BadRow kn_BadRow_BadNumber km_BadRow_BadNumber⟩) (kit_all ek_BadRow et_BadRow),
    .mk' (PySem.W.mg_of X G xe_BadStream) (fun n hn => by cases hn) (fun n hn => by simp only [List.mem_cons, List.not_mem_nil, or_false] at hn; rcases hn with rfl | rfl <;> first | exact ⟨_, (⟨xe_BadNumber, by rw [cl_BadNumber]; rfl, ⟨ga_BadNumber, gg_BadNumber, bs_BadNumber, hd_BadNumber, ca_BadNumber, ib, ic, mo_BadNumber⟩⟩ : XCls K "BadNumber" E_BadNumber), kit_other ek_BadStream et_BadStream kn_BadStream_BadNumber km_BadStream_BadNumber⟩ | exact ⟨_, (⟨xe_BadRow, by rw [cl_BadRow]; rfl, ⟨ga_BadRow, gg_BadRow, bs_BadRow, hd_BadRow, ca_BadRow, ib, ic, mo_BadRow⟩⟩ : XCls K "BadRow" E_BadRow), kit_other ek_BadStream et_BadStream kn_BadStream_BadRow km_BadStream_BadRow⟩) (kit_all ek_BadStream et_BadStream),
    .mk' (PySem.W.mg_of X G xe_Misfit) (fun n hn => by cases hn) (fun n hn => by simp only [List.mem_cons, List.not_mem_nil, or_false] at hn; rcases hn with rfl | rfl <;> first | exact ⟨_, (⟨xe_BadNumber, by rw [cl_BadNumber]; rfl, ⟨ga_BadNumber, gg_BadNumber, bs_BadNumber, hd_BadNumber, ca_BadNumber, ib, ic, mo_BadNumber⟩⟩ : XCls K "BadNumber" E_BadNumber), kit_other ek_Misfit et_Misfit kn_Misfit_BadNumber km_Misfit_BadNumber⟩ | exact ⟨_, (⟨xe_BadRow, by rw [cl_BadRow]; rfl, ⟨ga_BadRow, gg_BadRow, bs_BadRow, hd_BadRow, ca_BadRow, ib, ic, mo_BadRow⟩⟩ : XCls K "BadRow" E_BadRow), kit_other ek_Misfit et_Misfit kn_Misfit_BadRow km_Misfit_BadRow⟩) (kit_all ek_Misfit et_Misfit),
    .mk' (PySem.W.mg_of X G xe_Nothing) (fun n hn => by cases hn) (fun n hn => by simp only [List.mem_cons, List.not_mem_nil, or_false] at hn; rcases hn with rfl | rfl <;> first | exact ⟨_, (⟨xe_BadNumber, by rw [cl_BadNumber]; rfl, ⟨ga_BadNumber, gg_BadNumber, bs_BadNumber, hd_BadNumber, ca_BadNumber, ib, ic, mo_BadNumber⟩⟩ : XCls K "BadNumber" E_BadNumber), kit_other ek_Nothing et_Nothing kn_Nothing_BadNumber km_Nothing_BadNumber⟩ | exact ⟨_, (⟨xe_BadRow, by rw [cl_BadRow]; rfl, ⟨ga_BadRow, gg_BadRow, bs_BadRow, hd_BadRow, ca_BadRow, ib, ic, mo_BadRow⟩⟩ : XCls K "BadRow" E_BadRow), kit_other ek_Nothing et_Nothing kn_Nothing_BadRow km_Nothing_BadRow⟩) (kit_all ek_Nothing et_Nothing),
    .mk' (PySem.W.mg_of X G xe_TooMany) (fun n hn => by cases hn) (fun n hn => by simp only [List.mem_cons, List.not_mem_nil, or_false] at hn; rcases hn with rfl | rfl <;> first | exact ⟨_, (⟨xe_BadNumber, by rw [cl_BadNumber]; rfl, ⟨ga_BadNumber, gg_BadNumber, bs_BadNumber, hd_BadNumber, ca_BadNumber, ib, ic, mo_BadNumber⟩⟩ : XCls K "BadNumber" E_BadNumber), kit_other ek_TooMany et_TooMany kn_TooMany_BadNumber km_TooMany_BadNumber⟩ | exact ⟨_, (⟨xe_BadRow, by rw [cl_BadRow]; rfl, ⟨ga_BadRow, gg_BadRow, bs_BadRow, hd_BadRow, ca_BadRow, ib, ic, mo_BadRow⟩⟩ : XCls K "BadRow" E_BadRow), kit_other ek_TooMany et_TooMany kn_TooMany_BadRow km_TooMany_BadRow⟩) (kit_all ek_TooMany et_TooMany),
    ⟨_, PySem.W.mg_of X G xe_SaveError, (fun n hn D hD => by simp only [List.mem_cons, List.not_mem_nil, or_false] at hn; rcases hn with rfl | rfl <;> first | (cases ClsAt.uniq hD xe_BadNumber; exact exm_mk bs_SaveError ek_SaveError et_SaveError su_SaveError_BadNumber) | (cases ClsAt.uniq hD xe_BadRow; exact exm_mk bs_SaveError ek_SaveError et_SaveError su_SaveError_BadRow))⟩,
    ⟨_, (⟨xe_BadNumber, by rw [cl_BadNumber]; rfl, ⟨ga_BadNumber, gg_BadNumber, bs_BadNumber, hd_BadNumber, ca_BadNumber, ib, ic, mo_BadNumber⟩⟩ : XCls K "BadNumber" E_BadNumber), nf_BadNumber_part⟩,
    ⟨_, (⟨xe_BadRow, by rw [cl_BadRow]; rfl, ⟨ga_BadRow, gg_BadRow, bs_BadRow, hd_BadRow, ca_BadRow, ib, ic, mo_BadRow⟩⟩ : XCls K "BadRow" E_BadRow), nf_BadRow_at⟩⟩
  obtain ⟨f, fd, F, H, hm⟩ := (kn_law (w := w) T).ex
  cases hfa.symm.trans hm
  have e2 := (fun_mk (st := s_law) l29 c29 k29)
  exact (Fun.same F e2) ▸ H
end Fx

set_option Elab.async false
set_option linter.all false
set_option maxRecDepth 100000
set_option exponentiation.threshold 3000
namespace Fx
variable [Tbl]
open PySem L2 PyProof.Rows
/-! ### the draws -/
def Pen (b : Nat) (P : List D) : Prop := ∃ (cs : List Int) (t p : Int), P = [.lst (cs.map D.int), .int t, .int p] ∧ cs.length ≤ 63 ∧ 0 ≤ t ∧ t ≤ b
theorem Pen.mono {b c : Nat} {P : List D} (h : Pen b P) (e : b ≤ c) : Pen c P := by
  obtain ⟨cs, t, p, h1, h2, h3, h4⟩ := h
  exact ⟨cs, t, p, h1, h2, h3, by omega⟩
theorem log_lt {m : Int} (h : 0 < m) (h2 : m < 2 ^ 140) : m.natAbs.log2 < 9000 := by
  rcases Nat.eq_zero_or_pos m.natAbs with h0 | h0
  · rw [h0]
    decide
  · refine (Nat.log2_lt (by omega)).mpr ?_
    refine Nat.lt_of_lt_of_le (m := 2 ^ 140) (by omega) (Nat.pow_le_pow_right (by decide) (by decide))
theorem start2 {as : List D} {d : D} : startS 6 true [.lst as, d] = [.io (.l as), .va d, .un, .un, .un, .un] := rfl
theorem ne_nilL (cs : List Int) : neD (.lst (cs.map D.int)) (.lst []) = some (.bl (!decide (cs = []))) := ne_ints cs []
theorem at_mod {cs : List Int} {t : Int} (h : cs ≠ []) (ht : 0 ≤ t) : ∃ c, atD (cs.map D.int) (t % ((cs.map D.int).length : Int)) = some (.int c) := by
  have hl : 0 < cs.length := List.length_pos_iff.mpr h
  rw [List.length_map]
  have h1 : 0 ≤ t % (cs.length : Int) := Int.emod_nonneg _ (by omega)
  have h2 : t % (cs.length : Int) < cs.length := Int.emod_lt_of_pos _ (by omega)
  have h3 : (t % (cs.length : Int)).toNat < cs.length := by omega
  refine ⟨cs[(t % (cs.length : Int)).toNat], ev_int h1 ?_⟩
  rw [List.getElem?_map, List.getElem?_eq_getElem h3]
  rfl
theorem pow_ok {i : Int} {k : Nat} (hk : k ≤ 1000000) (h0 : 0 ≤ i) (h : i < 2 ^ 64) : powD (.int i) (.int (k : Int)) = some (.int (i ^ k)) := by
  rw [ev_powI ⟨by omega, by omega, by omega⟩]
  rw [Int.toNat_natCast]
theorem draw {b : Nat} {P : List D} {m : Int} (h : Pen b P) (hb : b < 2 ^ 20) (hm : 0 < m) (hm2 : m < 2 ^ 140) : ∃ r P', F__law_draw [.lst P, .int m] = .ret (.int r) (.l P') ∧ 0 ≤ r ∧ r < m ∧ Pen (b + 1) P' := by
  obtain ⟨cs, t, p, rfl, hl, ht, htb⟩ := h
  have hlg := log_lt hm hm2
  have em : ∀ i : Int, modD (.int i) (.int m) = some (.int (i % m)) := fun i => ev_modI hm
  have ed : ∀ i : Int, fdivD (.int i) (.int m) = some (.int (i / m)) := fun i => ev_fdivI hm hlg
  by_cases hp : 0 < p
  · refine ⟨p % m, [.lst (cs.map D.int), .int t, .int (p / m)], ?_, Int.emod_nonneg _ (by omega), Int.emod_lt_of_pos _ hm, cs, t, p / m, rfl, hl, ht, by omega⟩
    show outF true (g__law_draw _) = _
    rw [start2]
    simp only [g__law_draw, ev_name, ev_c, ev_op2, ev_op1, ev_toR1, ev_toRL1, ev_nil, ev_cons, ev_opn, ev_opnN, ev_tup, ev_lst, ev_lstN, ev_new, ev_tst, ev_notT, ev_andT, ev_orT, ev_notF, ev_andF, ev_orF, ev_ifF, ev_yes, ev_iter, ev_rng1, ev_rng2, ev_rngW, ev_noP, ev_sl, ev_part, ev_next, ev_noG, ev_seq, ev_drop, ev_ret, ev_retN, ev_if, ev_asg, ev_setA, ev_nilA, ev_consA, ev_seqT, ev_seqL, ev_setN, ev_ok, ev_ioV, ev_ioU, ev_ioW, ev_owV, ev_owU, ev_own, ev_put, ev_ixOwn, ev_lenOwn, ev_setIx, ev_comp, ev_compL0, ev_compL1, ev_okC, ev_wipe1, ev_wipe0, ev_rest1, ev_rest0, ev_call, ev_callN, ev_ofr, ev_ofn, ev_ofnN, ev_mut, ev_mdl, ev_mdi, ev_io, ev_addI, ev_subI, ev_negI, ev_cmpI, ev_eqI, ev_neI, ev_eqS, ev_neS, ev_intI, ev_intB, ev_absI, ev_lenL, ev_lenT, ev_ixL, ev_ixT, ev_at0, ev_at1, ev_at2, ev_i30, ev_i31, ev_i32, ev_pk1, ev_pk2, ev_pk3, ev_pk4, ev_pkw1, ev_pkw2, ev_pkv2, ev_isI, ev_isN, ev_isB, ev_inI, ev_inN, ev_inB, ev_listT, ev_listL, ev_tupT, ev_tupL, ev_fld, ev_insAt, ev_fldOwn, ev_fldG, ev_meth, ev_make, ev_callL, ev_noLI, ev_nilL, ev_nameL, ev_lendL, ev_conL, ev_augIx, ev_putAt, ev_iadd, ev_isub, ev_revT, ev_enum, ev_zip, ev_seqDL, ev_seqDT, ev_nilM, ev_vaM, ev_owM, ev_parM, ev_app, ev_par, ev_par3, ev_lam, ev_ra, ev_xfld, ev_isX, ev_isX_non, ev_hd_found, ev_hd_ret, ev_hd_expr, ev_hd_er, ev_outV, ev_outVn, ev_makeK, ev_band, ev_bxor, ev_bor, ev_aug, ev_trng1, ev_trng2, ev_revE, ev_idxF, ev_pop, R.bind_ok, R.out_ok, Option.bind_some, List.getElem?_cons_succ, List.getElem?_cons_zero, List.set_cons_succ, List.set_cons_zero, List.length_cons, List.length_nil, Nat.reduceAdd, Nat.reduceEqDiff, List.getD_cons_succ, List.getD_cons_zero, decide_true, decide_false, Bool.and_true, Bool.and_self, and_self, true_and, List.all_cons, List.all_nil, Bool.not_true, Bool.not_false, if_true, Bool.true_eq_false, Bool.false_eq_true, if_false, em, ed, decide_eq_true hp]
    rfl
  · have hp' : decide (0 < p) = false := decide_eq_false hp
    have m1 : mulD (.int 84049) (.int t) = some (.int (84049 * t)) := ev_mulS (.inl ⟨by decide, by decide⟩)
    have m1b : mulD (.int 5063) (.int t) = some (.int (5063 * t)) := ev_mulS (.inl ⟨by decide, by decide⟩)
    have m2 : mulD (.int 2) (.int t) = some (.int (2 * t)) := ev_mulS (.inl ⟨by decide, by decide⟩)
    have m3 : mulD (.int (84049 * t)) (.int t) = some (.int (84049 * t * t)) := ev_mulS (.inr ⟨by omega, by omega⟩)
    have e1 : ∀ i : Int, modD (.int i) (.int 2147483587) = some (.int (i % 2147483587)) := fun i => ev_modI (by decide)
    have e2 : ∀ i : Int, modD (.int i) (.int 2147483563) = some (.int (i % 2147483563)) := fun i => ev_modI (by decide)
    have e3 : ∀ i : Int, modD (.int i) (.int 2147483549) = some (.int (i % 2147483549)) := fun i => ev_modI (by decide)
    have e4 : ∀ i : Int, fdivD (.int i) (.int 64) = some (.int (i / 64)) := fun i => ev_fdivI (by decide) (by decide)
    have p1 : ∀ c : Int, powD (.int (c % 2147483587 + 5063 * t + 2045)) (.int 5) = some (.int ((c % 2147483587 + 5063 * t + 2045) ^ 5)) := fun c => pow_ok (k := 5) (by decide) (by omega) (by omega)
    have p18 : powD (.int 10) (.int 18) = some (.int 1000000000000000000) := rfl
    have m4 : ∀ x : Int, mulD (.int (x % 2147483563)) (.int (2 * t + 319)) = some (.int (x % 2147483563 * (2 * t + 319))) := fun x => ev_mulS (.inl ⟨by omega, by omega⟩)
    have p2 : ∀ x : Int, powD (.int (x % 2147483563 * (2 * t + 319) + 84049 * t * t + 5063)) (.int 3) = some (.int ((x % 2147483563 * (2 * t + 319) + 84049 * t * t + 5063) ^ 3)) := fun x => by
      have h1 : 0 ≤ x % 2147483563 * (2 * t + 319) := Int.mul_nonneg (by omega) (by omega)
      have h2 : 0 ≤ 84049 * t * t := Int.mul_nonneg (by omega) ht
      have h3 : x % 2147483563 * (2 * t + 319) ≤ 2147483563 * 2097471 := Int.mul_le_mul (by omega) (by omega) (by omega) (by omega)
      have h4 : 84049 * t * t ≤ 88131764224 * 1048576 := Int.mul_le_mul (by omega) (by omega) ht (by omega)
      exact pow_ok (k := 3) (by decide) (by omega) (by omega)
    by_cases hc : cs = []
    · subst hc
      have ht' : decide (t < ((0 : Nat) : Int)) = false := decide_eq_false (by omega)
      have n0 : neD (.lst []) (.lst []) = some (.bl false) := ne_nilL []
      refine ⟨?x1 % m, [.lst ([].map D.int), .int (t + 1), .int p], ?e, Int.emod_nonneg _ (by omega), Int.emod_lt_of_pos _ hm, [], t + 1, p, rfl, hl, by omega, by omega⟩
      case e =>
        show outF true (g__law_draw _) = _
        rw [start2]
        simp only [g__law_draw, ev_name, ev_c, ev_op2, ev_op1, ev_toR1, ev_toRL1, ev_nil, ev_cons, ev_opn, ev_opnN, ev_tup, ev_lst, ev_lstN, ev_new, ev_tst, ev_notT, ev_andT, ev_orT, ev_notF, ev_andF, ev_orF, ev_ifF, ev_yes, ev_iter, ev_rng1, ev_rng2, ev_rngW, ev_noP, ev_sl, ev_part, ev_next, ev_noG, ev_seq, ev_drop, ev_ret, ev_retN, ev_if, ev_asg, ev_setA, ev_nilA, ev_consA, ev_seqT, ev_seqL, ev_setN, ev_ok, ev_ioV, ev_ioU, ev_ioW, ev_owV, ev_owU, ev_own, ev_put, ev_ixOwn, ev_lenOwn, ev_setIx, ev_comp, ev_compL0, ev_compL1, ev_okC, ev_wipe1, ev_wipe0, ev_rest1, ev_rest0, ev_call, ev_callN, ev_ofr, ev_ofn, ev_ofnN, ev_mut, ev_mdl, ev_mdi, ev_io, ev_addI, ev_subI, ev_negI, ev_cmpI, ev_eqI, ev_neI, ev_eqS, ev_neS, ev_intI, ev_intB, ev_absI, ev_lenL, ev_lenT, ev_ixL, ev_ixT, ev_at0, ev_at1, ev_at2, ev_i30, ev_i31, ev_i32, ev_pk1, ev_pk2, ev_pk3, ev_pk4, ev_pkw1, ev_pkw2, ev_pkv2, ev_isI, ev_isN, ev_isB, ev_inI, ev_inN, ev_inB, ev_listT, ev_listL, ev_tupT, ev_tupL, ev_fld, ev_insAt, ev_fldOwn, ev_fldG, ev_meth, ev_make, ev_callL, ev_noLI, ev_nilL, ev_nameL, ev_lendL, ev_conL, ev_augIx, ev_putAt, ev_iadd, ev_isub, ev_revT, ev_enum, ev_zip, ev_seqDL, ev_seqDT, ev_nilM, ev_vaM, ev_owM, ev_parM, ev_app, ev_par, ev_par3, ev_lam, ev_ra, ev_xfld, ev_isX, ev_isX_non, ev_hd_found, ev_hd_ret, ev_hd_expr, ev_hd_er, ev_outV, ev_outVn, ev_makeK, ev_band, ev_bxor, ev_bor, ev_aug, ev_trng1, ev_trng2, ev_revE, ev_idxF, ev_pop, R.bind_ok, R.out_ok, Option.bind_some, List.getElem?_cons_succ, List.getElem?_cons_zero, List.set_cons_succ, List.set_cons_zero, List.length_cons, List.length_nil, Nat.reduceAdd, Nat.reduceEqDiff, List.getD_cons_succ, List.getD_cons_zero, decide_true, decide_false, Bool.and_true, Bool.and_self, and_self, true_and, List.all_cons, List.all_nil, Bool.not_true, Bool.not_false, if_true, Bool.true_eq_false, Bool.false_eq_true, if_false, em, ed, hp', m1, m1b, m2, m3, e1, e2, e3, e4, p1, p18, m4, p2, ht', n0, List.map_nil, Nat.zero_le]
        rfl
    · obtain ⟨c, ec⟩ := at_mod hc ht
      have n0 : neD (.lst (cs.map D.int)) (.lst []) = some (.bl true) := by
        rw [ne_nilL, decide_eq_false hc]
        rfl
      have m5 : ∀ x : Int, mulD (.int 2) (.int x) = some (.int (2 * x)) := fun x => ev_mulS (.inl ⟨by decide, by decide⟩)
      have el : ∀ i : Int, modD (.int i) (.int ((cs.map D.int).length : Int)) = some (.int (i % ((cs.map D.int).length : Int))) := fun i => ev_modI (by
        rw [List.length_map]
        have := List.length_pos_iff.mpr hc
        omega)
      cases h1 : decide (t < ((cs.map D.int).length : Int)) && decide ((1000000000000000000 : Int) ≤ (if c < 0 then -c else c)) with
      | true =>
        rw [Bool.and_eq_true] at h1
        refine ⟨?x2 % m, [.lst (cs.map D.int), .int (t + 1), .int (?x2 / m)], ?e, Int.emod_nonneg _ (by omega), Int.emod_lt_of_pos _ hm, cs, t + 1, _, rfl, hl, by omega, by omega⟩
        case e =>
          show outF true (g__law_draw _) = _
          rw [start2]
          simp only [g__law_draw, ev_name, ev_c, ev_op2, ev_op1, ev_toR1, ev_toRL1, ev_nil, ev_cons, ev_opn, ev_opnN, ev_tup, ev_lst, ev_lstN, ev_new, ev_tst, ev_notT, ev_andT, ev_orT, ev_notF, ev_andF, ev_orF, ev_ifF, ev_yes, ev_iter, ev_rng1, ev_rng2, ev_rngW, ev_noP, ev_sl, ev_part, ev_next, ev_noG, ev_seq, ev_drop, ev_ret, ev_retN, ev_if, ev_asg, ev_setA, ev_nilA, ev_consA, ev_seqT, ev_seqL, ev_setN, ev_ok, ev_ioV, ev_ioU, ev_ioW, ev_owV, ev_owU, ev_own, ev_put, ev_ixOwn, ev_lenOwn, ev_setIx, ev_comp, ev_compL0, ev_compL1, ev_okC, ev_wipe1, ev_wipe0, ev_rest1, ev_rest0, ev_call, ev_callN, ev_ofr, ev_ofn, ev_ofnN, ev_mut, ev_mdl, ev_mdi, ev_io, ev_addI, ev_subI, ev_negI, ev_cmpI, ev_eqI, ev_neI, ev_eqS, ev_neS, ev_intI, ev_intB, ev_absI, ev_lenL, ev_lenT, ev_ixL, ev_ixT, ev_at0, ev_at1, ev_at2, ev_i30, ev_i31, ev_i32, ev_pk1, ev_pk2, ev_pk3, ev_pk4, ev_pkw1, ev_pkw2, ev_pkv2, ev_isI, ev_isN, ev_isB, ev_inI, ev_inN, ev_inB, ev_listT, ev_listL, ev_tupT, ev_tupL, ev_fld, ev_insAt, ev_fldOwn, ev_fldG, ev_meth, ev_make, ev_callL, ev_noLI, ev_nilL, ev_nameL, ev_lendL, ev_conL, ev_augIx, ev_putAt, ev_iadd, ev_isub, ev_revT, ev_enum, ev_zip, ev_seqDL, ev_seqDT, ev_nilM, ev_vaM, ev_owM, ev_parM, ev_app, ev_par, ev_par3, ev_lam, ev_ra, ev_xfld, ev_isX, ev_isX_non, ev_hd_found, ev_hd_ret, ev_hd_expr, ev_hd_er, ev_outV, ev_outVn, ev_makeK, ev_band, ev_bxor, ev_bor, ev_aug, ev_trng1, ev_trng2, ev_revE, ev_idxF, ev_pop, R.bind_ok, R.out_ok, Option.bind_some, List.getElem?_cons_succ, List.getElem?_cons_zero, List.set_cons_succ, List.set_cons_zero, List.length_cons, List.length_nil, Nat.reduceAdd, Nat.reduceEqDiff, List.getD_cons_succ, List.getD_cons_zero, decide_true, decide_false, Bool.and_true, Bool.and_self, and_self, true_and, List.all_cons, List.all_nil, Bool.not_true, Bool.not_false, if_true, Bool.true_eq_false, Bool.false_eq_true, if_false, em, ed, hp', m1, m5, e1, e2, e3, e4, p18, n0, ec, el, h1.1, h1.2, Nat.zero_le]
          rfl
      | false =>
        refine ⟨?x3 % m, [.lst (cs.map D.int), .int (t + 1), .int p], ?e, Int.emod_nonneg _ (by omega), Int.emod_lt_of_pos _ hm, cs, t + 1, p, rfl, hl, by omega, by omega⟩
        case e =>
          show outF true (g__law_draw _) = _
          rw [start2]
          rw [Bool.and_eq_false_iff] at h1
          by_cases h2 : decide (t < ((cs.map D.int).length : Int)) = true
          · have h3 := h1.resolve_left (by rw [h2]; decide)
            simp only [g__law_draw, ev_name, ev_c, ev_op2, ev_op1, ev_toR1, ev_toRL1, ev_nil, ev_cons, ev_opn, ev_opnN, ev_tup, ev_lst, ev_lstN, ev_new, ev_tst, ev_notT, ev_andT, ev_orT, ev_notF, ev_andF, ev_orF, ev_ifF, ev_yes, ev_iter, ev_rng1, ev_rng2, ev_rngW, ev_noP, ev_sl, ev_part, ev_next, ev_noG, ev_seq, ev_drop, ev_ret, ev_retN, ev_if, ev_asg, ev_setA, ev_nilA, ev_consA, ev_seqT, ev_seqL, ev_setN, ev_ok, ev_ioV, ev_ioU, ev_ioW, ev_owV, ev_owU, ev_own, ev_put, ev_ixOwn, ev_lenOwn, ev_setIx, ev_comp, ev_compL0, ev_compL1, ev_okC, ev_wipe1, ev_wipe0, ev_rest1, ev_rest0, ev_call, ev_callN, ev_ofr, ev_ofn, ev_ofnN, ev_mut, ev_mdl, ev_mdi, ev_io, ev_addI, ev_subI, ev_negI, ev_cmpI, ev_eqI, ev_neI, ev_eqS, ev_neS, ev_intI, ev_intB, ev_absI, ev_lenL, ev_lenT, ev_ixL, ev_ixT, ev_at0, ev_at1, ev_at2, ev_i30, ev_i31, ev_i32, ev_pk1, ev_pk2, ev_pk3, ev_pk4, ev_pkw1, ev_pkw2, ev_pkv2, ev_isI, ev_isN, ev_isB, ev_inI, ev_inN, ev_inB, ev_listT, ev_listL, ev_tupT, ev_tupL, ev_fld, ev_insAt, ev_fldOwn, ev_fldG, ev_meth, ev_make, ev_callL, ev_noLI, ev_nilL, ev_nameL, ev_lendL, ev_conL, ev_augIx, ev_putAt, ev_iadd, ev_isub, ev_revT, ev_enum, ev_zip, ev_seqDL, ev_seqDT, ev_nilM, ev_vaM, ev_owM, ev_parM, ev_app, ev_par, ev_par3, ev_lam, ev_ra, ev_xfld, ev_isX, ev_isX_non, ev_hd_found, ev_hd_ret, ev_hd_expr, ev_hd_er, ev_outV, ev_outVn, ev_makeK, ev_band, ev_bxor, ev_bor, ev_aug, ev_trng1, ev_trng2, ev_revE, ev_idxF, ev_pop, R.bind_ok, R.out_ok, Option.bind_some, List.getElem?_cons_succ, List.getElem?_cons_zero, List.set_cons_succ, List.set_cons_zero, List.length_cons, List.length_nil, Nat.reduceAdd, Nat.reduceEqDiff, List.getD_cons_succ, List.getD_cons_zero, decide_true, decide_false, Bool.and_true, Bool.and_self, and_self, true_and, List.all_cons, List.all_nil, Bool.not_true, Bool.not_false, if_true, Bool.true_eq_false, Bool.false_eq_true, if_false, em, ed, hp', m1, m1b, m2, m3, e1, e2, e3, e4, p1, p18, m4, p2, n0, ec, el, h2, h3, Nat.zero_le]
            rfl
          · have h3 : decide (t < ((cs.map D.int).length : Int)) = false := by
              cases h : decide (t < ((cs.map D.int).length : Int)) with
              | true => exact absurd h h2
              | false => rfl
            simp only [g__law_draw, ev_name, ev_c, ev_op2, ev_op1, ev_toR1, ev_toRL1, ev_nil, ev_cons, ev_opn, ev_opnN, ev_tup, ev_lst, ev_lstN, ev_new, ev_tst, ev_notT, ev_andT, ev_orT, ev_notF, ev_andF, ev_orF, ev_ifF, ev_yes, ev_iter, ev_rng1, ev_rng2, ev_rngW, ev_noP, ev_sl, ev_part, ev_next, ev_noG, ev_seq, ev_drop, ev_ret, ev_retN, ev_if, ev_asg, ev_setA, ev_nilA, ev_consA, ev_seqT, ev_seqL, ev_setN, ev_ok, ev_ioV, ev_ioU, ev_ioW, ev_owV, ev_owU, ev_own, ev_put, ev_ixOwn, ev_lenOwn, ev_setIx, ev_comp, ev_compL0, ev_compL1, ev_okC, ev_wipe1, ev_wipe0, ev_rest1, ev_rest0, ev_call, ev_callN, ev_ofr, ev_ofn, ev_ofnN, ev_mut, ev_mdl, ev_mdi, ev_io, ev_addI, ev_subI, ev_negI, ev_cmpI, ev_eqI, ev_neI, ev_eqS, ev_neS, ev_intI, ev_intB, ev_absI, ev_lenL, ev_lenT, ev_ixL, ev_ixT, ev_at0, ev_at1, ev_at2, ev_i30, ev_i31, ev_i32, ev_pk1, ev_pk2, ev_pk3, ev_pk4, ev_pkw1, ev_pkw2, ev_pkv2, ev_isI, ev_isN, ev_isB, ev_inI, ev_inN, ev_inB, ev_listT, ev_listL, ev_tupT, ev_tupL, ev_fld, ev_insAt, ev_fldOwn, ev_fldG, ev_meth, ev_make, ev_callL, ev_noLI, ev_nilL, ev_nameL, ev_lendL, ev_conL, ev_augIx, ev_putAt, ev_iadd, ev_isub, ev_revT, ev_enum, ev_zip, ev_seqDL, ev_seqDT, ev_nilM, ev_vaM, ev_owM, ev_parM, ev_app, ev_par, ev_par3, ev_lam, ev_ra, ev_xfld, ev_isX, ev_isX_non, ev_hd_found, ev_hd_ret, ev_hd_expr, ev_hd_er, ev_outV, ev_outVn, ev_makeK, ev_band, ev_bxor, ev_bor, ev_aug, ev_trng1, ev_trng2, ev_revE, ev_idxF, ev_pop, R.bind_ok, R.out_ok, Option.bind_some, List.getElem?_cons_succ, List.getElem?_cons_zero, List.set_cons_succ, List.set_cons_zero, List.length_cons, List.length_nil, Nat.reduceAdd, Nat.reduceEqDiff, List.getD_cons_succ, List.getD_cons_zero, decide_true, decide_false, Bool.and_true, Bool.and_self, and_self, true_and, List.all_cons, List.all_nil, Bool.not_true, Bool.not_false, if_true, Bool.true_eq_false, Bool.false_eq_true, if_false, em, ed, hp', m1, m1b, m2, m3, e1, e2, e3, e4, p1, p18, m4, p2, n0, ec, el, h3, Nat.zero_le]
            rfl
/-! ### small things -/
theorem sl63 {n : Nat} (h : n ≤ 63) : n ≤ sizeLine := by
  rw [sizeLine_eq]
  omega
theorem szA {n : Nat} (h : n ≤ 10000) : (n ≤ sizeLine) = True := by
  rw [sizeLine_eq]
  exact eq_true (by omega)
theorem szB {n : Nat} (h : n ≤ 10000) : (n < sizeLine) = True := by
  rw [sizeLine_eq]
  exact eq_true (by omega)
theorem outE {io : Bool} {g : G} {s : List Sl} {o : Out} {r : FR} (h : g s = o) (e : outF io o = r) : outF io (g s) = r := by rw [h]; exact e
theorem ne_str (z : Str) : neD (.str z) (.str z) = some (.bl false) := by
  show some (D.bl (!decide (z = z))) = _
  rw [decide_eq_true rfl]
  rfl
theorem eqL {ds : List D} (h : laDL ds = true) (h2 : shDpL ds < 60) : eqD (.lst ds) (.lst ds) = some (.bl true) := eq_same (by unfold laD; exact h) (by unfold shDp; omega)
theorem neL {ds : List D} (h : laDL ds = true) (h2 : shDpL ds < 60) : neD (.lst ds) (.lst ds) = some (.bl false) := ne_same (by unfold laD; exact h) (by unfold shDp; omega)
theorem eqT {ds : List D} (h : laDL ds = true) (h2 : shDpL ds < 60) : eqD (.tup ds) (.tup ds) = some (.bl true) := eq_same (by unfold laD; exact h) (by unfold shDp; omega)
theorem neT {ds : List D} (h : laDL ds = true) (h2 : shDpL ds < 60) : neD (.tup ds) (.tup ds) = some (.bl false) := ne_same (by unfold laD; exact h) (by unfold shDp; omega)
theorem laD_ints (ns : List Int) : laDL (ns.map D.int) = true := by
  induction ns with
  | nil => rfl
  | cons n ns ih =>
    rw [List.map_cons]
    unfold laDL
    rw [ih]
    rfl
theorem shDp_ints (ns : List Int) : shDpL (ns.map D.int) = 0 := by
  induction ns with
  | nil => rfl
  | cons n ns ih =>
    rw [List.map_cons]
    unfold shDpL
    rw [ih]
    rfl
theorem shOk_ints {ns : List Int} (h : ∀ n ∈ ns, n.natAbs.log2 < 1920) : shOkL (ns.map D.int) = true := by
  induction ns with
  | nil => rfl
  | cons n ns ih =>
    rw [List.map_cons]
    unfold shOkL
    rw [ih fun m hm => h m (List.mem_cons_of_mem _ hm), Bool.and_true]
    unfold shOk
    exact decide_eq_true (h n List.mem_cons_self)
theorem shSz_ints (ns : List Int) : shSzL (ns.map D.int) = 1923 * ns.length := by
  induction ns with
  | nil => rfl
  | cons n ns ih =>
    rw [List.map_cons]
    unfold shSzL
    rw [ih, List.length_cons]
    unfold shSz
    omega
/-- repr of a list, a tuple of ints -/
theorem repr_ints {ns : List Int} (h : ∀ n ∈ ns, n.natAbs.log2 < 1920) (hl : ns.length ≤ 8000) : (∃ z, reprD [.lst (ns.map D.int)] = some (.str z)) ∧ ∃ z, reprD [.tup (ns.map D.int)] = some (.str z) := by
  refine ⟨repr_of ?_ ?_ ?_, repr_of ?_ ?_ ?_⟩
  · unfold shOk
    exact shOk_ints h
  · unfold shDp
    rw [shDp_ints]
    decide
  · unfold shSz
    rw [shSz_ints]
    omega
  · unfold shOk
    exact shOk_ints h
  · unfold shDp
    rw [shDp_ints]
    decide
  · unfold shSz
    rw [shSz_ints]
    omega
theorem log_of {n : Int} {k : Nat} (h : n.natAbs < 2 ^ k) (hk : k ≤ 1920) (h0 : 0 < k) : n.natAbs.log2 < 1920 := by
  by_cases e : n.natAbs = 0
  · rw [e]
    decide
  · have := (Nat.log2_lt e).mpr h
    omega
/-- a while by the number of its turns -/
theorem whileL_run {u : F Bool} {g : G} {I : Nat → List Sl → Prop} {J : List Sl → Prop} (step : ∀ m s, I (m + 1) s → ∃ s1 s2, u s = .ok true s1 ∧ (g s1 = .nx s2 ∨ g s1 = .ct s2) ∧ I m s2) (last : ∀ s, I 0 s → ∃ s1, u s = .ok false s1 ∧ J s1) :
    ∀ (m f : Nat) (s : List Sl), m < f → I m s → ∃ s', whileL u g f s = .nx s' ∧ J s'
  | m, 0, s, h, _ => absurd h (Nat.not_lt_zero _)
  | 0, f + 1, s, _, i => by
    obtain ⟨s1, e, j⟩ := last s i
    refine ⟨s1, ?_, j⟩
    unfold whileL
    rw [e, R.out_ok]
    rfl
  | m + 1, f + 1, s, h, i => by
    obtain ⟨s1, s2, e, e2, i2⟩ := step m s i
    obtain ⟨s', e3, j⟩ := whileL_run step last m f s2 (by omega) i2
    refine ⟨s', ?_, j⟩
    unfold whileL
    rw [e, R.out_ok, if_pos rfl]
    rcases e2 with e2 | e2 <;> rw [e2] <;> exact e3
theorem sm_of {m : Int} (h0 : 0 ≤ m) (h : m ≤ 100000) : sm62 m = true := decide_eq_true (by omega)
theorem rng1E {f : F D} {s s1 : List Sl} {M : Int} (e : f s = .ok (.int M) s1) (h : sm62 M = true) : rng1F f s = .ok (rngD 0 M) s1 := by
  rw [ev_rng1, e, R.bind_ok]
  exact if_pos h
theorem forE {k : F (List D)} {a : AS} {G1 : G} {s s1 s2 : List Sl} {ds : List D} (h : k s = .ok ds s1) (e : forL a G1 ds s1 = .nx s2) : forG k a G1 s = .nx s2 := by
  rw [ev_for, h, R.out_ok, e]
def intsR (a b : Int) : List Int := (List.range (b - a).toNat).map fun j : Nat => a + j
theorem rngD_ints (a b : Int) : rngD a b = (intsR a b).map D.int := by
  unfold rngD intsR
  rw [List.map_map]
  rfl
theorem ints_len (a b : Int) : (intsR a b).length = (b - a).toNat := by
  unfold intsR
  rw [List.length_map, List.length_range]
/-- values that are ints, as a list of ints -/
theorem to_ints {Bd : Int → Prop} : ∀ (ys : List D), (∀ (j : Nat) (y : D), ys[j]? = some y → ∃ m, y = .int m ∧ Bd m) → ∃ ms : List Int, ys = ms.map D.int ∧ ∀ m ∈ ms, Bd m
  | [], _ => ⟨[], rfl, fun m hm => absurd hm (List.not_mem_nil)⟩
  | y :: ys, h => by
    obtain ⟨m, rfl, hm⟩ := h 0 y rfl
    obtain ⟨ms, rfl, hms⟩ := to_ints ys fun j y e => h (j + 1) y e
    refine ⟨m :: ms, rfl, fun k hk => ?_⟩
    rcases List.mem_cons.mp hk with rfl | hk
    · exact hm
    · exact hms k hk
theorem ofX {x : XD} {ios : MO} {w : MO → List Sl} : ofFR (.er x ios) w = .er x (w ios) := rfl
theorem ev_revL {f : F D} {s : List Sl} : revLF f s = (f s).bind fun d s1 => match d with
  | .lst ds => .ok ds.reverse s1
  | .fz ds => .ok ds.reverse s1
  | _ => .no := rfl
theorem one {b : Nat} {P xs : List D} (h : Pen b P) (hb : b < 2 ^ 20) (h0 : xs ≠ []) (hl : xs.length < 1000000) : ∃ d P', F__law_one [.lst P, .lst xs] = .ret d (.l P') ∧ d ∈ xs ∧ Pen (b + 1) P' := by
  have hp : 0 < xs.length := List.length_pos_iff.mpr h0
  obtain ⟨r, P', e, r0, r1, hP⟩ := draw (m := (xs.length : Int)) h hb (by omega) (by omega)
  have hr : r.toNat < xs.length := by omega
  have ea : atD xs r = some xs[r.toNat] := ev_int r0 (List.getElem?_eq_getElem hr)
  refine ⟨xs[r.toNat], P', ?_, List.getElem_mem hr, hP⟩
  show outF true (g__law_one [.io (.l P), .va (.lst xs)]) = _
  simp only [g__law_one, ev_name, ev_c, ev_op2, ev_op1, ev_toR1, ev_toRL1, ev_nil, ev_cons, ev_opn, ev_opnN, ev_tup, ev_lst, ev_lstN, ev_new, ev_tst, ev_notT, ev_andT, ev_orT, ev_notF, ev_andF, ev_orF, ev_ifF, ev_yes, ev_iter, ev_rng1, ev_rng2, ev_rngW, ev_noP, ev_sl, ev_part, ev_next, ev_noG, ev_seq, ev_drop, ev_ret, ev_retN, ev_if, ev_asg, ev_setA, ev_nilA, ev_consA, ev_seqT, ev_seqL, ev_setN, ev_ok, ev_ioV, ev_ioU, ev_ioW, ev_owV, ev_owU, ev_own, ev_put, ev_ixOwn, ev_lenOwn, ev_setIx, ev_comp, ev_compL0, ev_compL1, ev_okC, ev_wipe1, ev_wipe0, ev_rest1, ev_rest0, ev_call, ev_callN, ev_ofr, ev_ofn, ev_ofnN, ev_mut, ev_mdl, ev_mdi, ev_io, ev_addI, ev_subI, ev_negI, ev_cmpI, ev_eqI, ev_neI, ev_eqS, ev_neS, ev_intI, ev_intB, ev_absI, ev_lenL, ev_lenT, ev_ixL, ev_ixT, ev_at0, ev_at1, ev_at2, ev_i30, ev_i31, ev_i32, ev_pk1, ev_pk2, ev_pk3, ev_pk4, ev_pkw1, ev_pkw2, ev_pkv2, ev_isI, ev_isN, ev_isB, ev_inI, ev_inN, ev_inB, ev_listT, ev_listL, ev_tupT, ev_tupL, ev_fld, ev_insAt, ev_fldOwn, ev_fldG, ev_meth, ev_make, ev_callL, ev_noLI, ev_nilL, ev_nameL, ev_lendL, ev_conL, ev_augIx, ev_putAt, ev_iadd, ev_isub, ev_revT, ev_enum, ev_zip, ev_seqDL, ev_seqDT, ev_nilM, ev_vaM, ev_owM, ev_parM, ev_app, ev_par, ev_par3, ev_lam, ev_ra, ev_xfld, ev_isX, ev_isX_non, ev_hd_found, ev_hd_ret, ev_hd_expr, ev_hd_er, ev_outV, ev_outVn, ev_makeK, ev_band, ev_bxor, ev_bor, ev_aug, ev_trng1, ev_trng2, ev_revE, ev_idxF, ev_pop, R.bind_ok, R.out_ok, Option.bind_some, List.getElem?_cons_succ, List.getElem?_cons_zero, List.set_cons_succ, List.set_cons_zero, List.length_cons, List.length_nil, Nat.reduceAdd, Nat.reduceEqDiff, List.getD_cons_succ, List.getD_cons_zero, decide_true, decide_false, Bool.and_true, Bool.and_self, and_self, true_and, List.all_cons, List.all_nil, Bool.not_true, Bool.not_false, if_true, Bool.true_eq_false, Bool.false_eq_true, if_false, e, ea]
  rfl
theorem well0 {ns : List Int} (h : ns.length ≤ 63) : F__law_well [.fz (ns.map D.int)] = .retn [.lst (ns.map D.int), .int 0, .int 0] (.l []) := by
  have e : slD (.fz (ns.map D.int)) none (some 63) = some (.lst (ns.map D.int)) := by
    show some (D.lst (cutD (ns.map D.int) none (some 63))) = _
    unfold cutD
    rw [HT.sIx_none, show HT.sIx (ns.map D.int).length (ns.map D.int).length (some 63) = min 63 (ns.map D.int).length from HT.sIx_nat _ _ 63, List.drop_zero, Nat.sub_zero, List.take_of_length_le (by rw [List.length_map]; omega)]
  have s3 : (3 ≤ sizeLine) = True := szA (by decide)
  have hc : compN (iterF (slF (nameF 0) noPartF (partF (cF (.int 63))))) [1] (setA 1) yesT (opnF intD (consF (nameF 1) nilF)) [.va (.fz (ns.map D.int)), .un] = .ok (ns.map D.int) [.va (.fz (ns.map D.int)), .un] := by
    refine compN_src1 D.int D.int (xs := ns) ?_ (by rw [sizeLine_eq]; omega) (y0 := .un) rfl Pl.un rfl fun x hx => ?_
    · simp only [ev_name, ev_c, ev_op2, ev_op1, ev_toR1, ev_toRL1, ev_nil, ev_cons, ev_opn, ev_opnN, ev_tup, ev_lst, ev_lstN, ev_new, ev_tst, ev_notT, ev_andT, ev_orT, ev_notF, ev_andF, ev_orF, ev_ifF, ev_yes, ev_iter, ev_rng1, ev_rng2, ev_rngW, ev_noP, ev_sl, ev_part, ev_next, ev_noG, ev_seq, ev_drop, ev_ret, ev_retN, ev_if, ev_asg, ev_setA, ev_nilA, ev_consA, ev_seqT, ev_seqL, ev_setN, ev_ok, ev_ioV, ev_ioU, ev_ioW, ev_owV, ev_owU, ev_own, ev_put, ev_ixOwn, ev_lenOwn, ev_setIx, ev_okC, ev_wipe1, ev_wipe0, ev_rest1, ev_rest0, ev_call, ev_callN, ev_ofr, ev_ofn, ev_ofnN, ev_mut, ev_mdl, ev_mdi, ev_io, ev_addI, ev_subI, ev_negI, ev_cmpI, ev_eqI, ev_neI, ev_eqS, ev_neS, ev_intI, ev_intB, ev_absI, ev_lenL, ev_lenT, ev_ixL, ev_ixT, ev_at0, ev_at1, ev_at2, ev_i30, ev_i31, ev_i32, ev_pk1, ev_pk2, ev_pk3, ev_pk4, ev_pkw1, ev_pkw2, ev_pkv2, ev_isI, ev_isN, ev_isB, ev_inI, ev_inN, ev_inB, ev_listT, ev_listL, ev_tupT, ev_tupL, ev_fld, ev_insAt, ev_fldOwn, ev_fldG, ev_meth, ev_make, ev_callL, ev_noLI, ev_nilL, ev_nameL, ev_lendL, ev_conL, ev_augIx, ev_putAt, ev_iadd, ev_isub, ev_revT, ev_enum, ev_zip, ev_seqDL, ev_seqDT, ev_nilM, ev_vaM, ev_owM, ev_parM, ev_app, ev_par, ev_par3, ev_lam, ev_ra, ev_xfld, ev_isX, ev_isX_non, ev_hd_found, ev_hd_ret, ev_hd_expr, ev_hd_er, ev_outV, ev_outVn, ev_makeK, ev_band, ev_bxor, ev_bor, ev_aug, ev_trng1, ev_trng2, ev_revE, ev_idxF, ev_pop, R.bind_ok, R.out_ok, Option.bind_some, List.getElem?_cons_succ, List.getElem?_cons_zero, List.set_cons_succ, List.set_cons_zero, List.length_cons, List.length_nil, Nat.reduceAdd, Nat.reduceEqDiff, List.getD_cons_succ, List.getD_cons_zero, decide_true, decide_false, Bool.and_true, Bool.and_self, and_self, true_and, List.all_cons, List.all_nil, Bool.not_true, Bool.not_false, if_true, Bool.true_eq_false, Bool.false_eq_true, if_false, e]
    · simp only [ev_name, ev_c, ev_op2, ev_op1, ev_toR1, ev_toRL1, ev_nil, ev_cons, ev_opn, ev_opnN, ev_tup, ev_lst, ev_lstN, ev_new, ev_tst, ev_notT, ev_andT, ev_orT, ev_notF, ev_andF, ev_orF, ev_ifF, ev_yes, ev_iter, ev_rng1, ev_rng2, ev_rngW, ev_noP, ev_sl, ev_part, ev_next, ev_noG, ev_seq, ev_drop, ev_ret, ev_retN, ev_if, ev_asg, ev_setA, ev_nilA, ev_consA, ev_seqT, ev_seqL, ev_setN, ev_ok, ev_ioV, ev_ioU, ev_ioW, ev_owV, ev_owU, ev_own, ev_put, ev_ixOwn, ev_lenOwn, ev_setIx, ev_okC, ev_wipe1, ev_wipe0, ev_rest1, ev_rest0, ev_call, ev_callN, ev_ofr, ev_ofn, ev_ofnN, ev_mut, ev_mdl, ev_mdi, ev_io, ev_addI, ev_subI, ev_negI, ev_cmpI, ev_eqI, ev_neI, ev_eqS, ev_neS, ev_intI, ev_intB, ev_absI, ev_lenL, ev_lenT, ev_ixL, ev_ixT, ev_at0, ev_at1, ev_at2, ev_i30, ev_i31, ev_i32, ev_pk1, ev_pk2, ev_pk3, ev_pk4, ev_pkw1, ev_pkw2, ev_pkv2, ev_isI, ev_isN, ev_isB, ev_inI, ev_inN, ev_inB, ev_listT, ev_listL, ev_tupT, ev_tupL, ev_fld, ev_insAt, ev_fldOwn, ev_fldG, ev_meth, ev_make, ev_callL, ev_noLI, ev_nilL, ev_nameL, ev_lendL, ev_conL, ev_augIx, ev_putAt, ev_iadd, ev_isub, ev_revT, ev_enum, ev_zip, ev_seqDL, ev_seqDT, ev_nilM, ev_vaM, ev_owM, ev_parM, ev_app, ev_par, ev_par3, ev_lam, ev_ra, ev_xfld, ev_isX, ev_isX_non, ev_hd_found, ev_hd_ret, ev_hd_expr, ev_hd_er, ev_outV, ev_outVn, ev_makeK, ev_band, ev_bxor, ev_bor, ev_aug, ev_trng1, ev_trng2, ev_revE, ev_idxF, ev_pop, R.bind_ok, R.out_ok, Option.bind_some, List.getElem?_cons_succ, List.getElem?_cons_zero, List.set_cons_succ, List.set_cons_zero, List.length_cons, List.length_nil, Nat.reduceAdd, Nat.reduceEqDiff, List.getD_cons_succ, List.getD_cons_zero, decide_true, decide_false, Bool.and_true, Bool.and_self, and_self, true_and, List.all_cons, List.all_nil, Bool.not_true, Bool.not_false, if_true, Bool.true_eq_false, Bool.false_eq_true, if_false]
  show outF false (g__law_well [.va (.fz (ns.map D.int)), .un]) = _
  simp only [g__law_well, ev_name, ev_c, ev_op2, ev_op1, ev_toR1, ev_toRL1, ev_nil, ev_cons, ev_opn, ev_opnN, ev_tup, ev_lst, ev_lstN, ev_new, ev_tst, ev_notT, ev_andT, ev_orT, ev_notF, ev_andF, ev_orF, ev_ifF, ev_yes, ev_iter, ev_rng1, ev_rng2, ev_rngW, ev_noP, ev_sl, ev_part, ev_next, ev_noG, ev_seq, ev_drop, ev_ret, ev_retN, ev_if, ev_asg, ev_setA, ev_nilA, ev_consA, ev_seqT, ev_seqL, ev_setN, ev_ok, ev_ioV, ev_ioU, ev_ioW, ev_owV, ev_owU, ev_own, ev_put, ev_ixOwn, ev_lenOwn, ev_setIx, ev_okC, ev_wipe1, ev_wipe0, ev_rest1, ev_rest0, ev_call, ev_callN, ev_ofr, ev_ofn, ev_ofnN, ev_mut, ev_mdl, ev_mdi, ev_io, ev_addI, ev_subI, ev_negI, ev_cmpI, ev_eqI, ev_neI, ev_eqS, ev_neS, ev_intI, ev_intB, ev_absI, ev_lenL, ev_lenT, ev_ixL, ev_ixT, ev_at0, ev_at1, ev_at2, ev_i30, ev_i31, ev_i32, ev_pk1, ev_pk2, ev_pk3, ev_pk4, ev_pkw1, ev_pkw2, ev_pkv2, ev_isI, ev_isN, ev_isB, ev_inI, ev_inN, ev_inB, ev_listT, ev_listL, ev_tupT, ev_tupL, ev_fld, ev_insAt, ev_fldOwn, ev_fldG, ev_meth, ev_make, ev_callL, ev_noLI, ev_nilL, ev_nameL, ev_lendL, ev_conL, ev_augIx, ev_putAt, ev_iadd, ev_isub, ev_revT, ev_enum, ev_zip, ev_seqDL, ev_seqDT, ev_nilM, ev_vaM, ev_owM, ev_parM, ev_app, ev_par, ev_par3, ev_lam, ev_ra, ev_xfld, ev_isX, ev_isX_non, ev_hd_found, ev_hd_ret, ev_hd_expr, ev_hd_er, ev_outV, ev_outVn, ev_makeK, ev_band, ev_bxor, ev_bor, ev_aug, ev_trng1, ev_trng2, ev_revE, ev_idxF, ev_pop, R.bind_ok, R.out_ok, Option.bind_some, List.getElem?_cons_succ, List.getElem?_cons_zero, List.set_cons_succ, List.set_cons_zero, List.length_cons, List.length_nil, Nat.reduceAdd, Nat.reduceEqDiff, List.getD_cons_succ, List.getD_cons_zero, decide_true, decide_false, Bool.and_true, Bool.and_self, and_self, true_and, List.all_cons, List.all_nil, Bool.not_true, Bool.not_false, if_true, Bool.true_eq_false, Bool.false_eq_true, if_false, hc, s3]
  rfl
end Fx

set_option Elab.async false
set_option linter.all false
set_option maxRecDepth 100000
set_option exponentiation.threshold 3000
namespace Fx
variable [Tbl]
open PySem L2 PyProof.Rows
/-! ### bits and the numbers that they write -/
def bitsI (n : Int) (m : Nat) : List Int := (List.range m).map fun j : Nat => n / 2 ^ (m - 1 - j) % 2
def jn (l : List Int) : Int := l.foldl (fun a b => 2 * a + b) 0
abbrev Bits (l : List Int) : Prop := ∀ b ∈ l, b = 0 ∨ b = 1
theorem ediv2 (n : Int) (k : Nat) : n / 2 ^ (k + 1) = n / 2 / 2 ^ k := by
  rw [Int.pow_succ, Int.mul_comm, Int.ediv_ediv_of_nonneg (by decide)]
theorem bitsI_len (n : Int) (m : Nat) : (bitsI n m).length = m := by
  unfold bitsI
  rw [List.length_map, List.length_range]
theorem bitsI_succ (n : Int) (m : Nat) : bitsI n (m + 1) = bitsI (n / 2) m ++ [n % 2] := by
  unfold bitsI
  rw [List.range_succ, List.map_append, List.map_singleton]
  congr 1
  · refine List.map_congr_left fun j hj => ?_
    rw [List.mem_range] at hj
    rw [show m + 1 - 1 - j = (m - 1 - j) + 1 by omega, ediv2]
  · rw [show m + 1 - 1 - m = 0 by omega, Int.pow_zero, Int.ediv_one]
theorem bitsI_bits (n : Int) (m : Nat) : Bits (bitsI n m) := fun b hb => by
  unfold bitsI at hb
  obtain ⟨j, _, rfl⟩ := List.mem_map.mp hb
  omega
theorem jn_snoc (l : List Int) (b : Int) : jn (l ++ [b]) = 2 * jn l + b := by
  unfold jn
  rw [List.foldl_append]
  rfl
theorem jn_bits : ∀ (m : Nat) (n : Int), jn (bitsI n m) = n % 2 ^ m
  | 0, n => by
    show (0 : Int) = n % 2 ^ 0
    rw [Int.pow_zero]
    omega
  | m + 1, n => by
    rw [bitsI_succ, jn_snoc, jn_bits m (n / 2), Int.pow_succ]
    have hp : (0 : Int) < 2 ^ m := Int.pow_pos (by decide)
    generalize (2 : Int) ^ m = p at hp ⊢
    have h1 := Int.emod_nonneg (n / 2) (show p ≠ 0 by omega)
    have h2 := Int.emod_lt_of_pos (n / 2) hp
    have h3 := Int.mul_ediv_add_emod (n / 2) p
    have h4 : n = 2 * (n / 2) + n % 2 := by omega
    have h5 : n = (2 * (n / 2 % p) + n % 2) + (p * 2) * (n / 2 / p) := by
      have : p * 2 * (n / 2 / p) = 2 * (p * (n / 2 / p)) := by rw [Int.mul_comm p 2, Int.mul_assoc]
      omega
    generalize n / 2 % p = u at h1 h2 h5 ⊢
    generalize n / 2 / p = t at h5
    have h6 : n % (p * 2) = 2 * u + n % 2 := by
      rw [h5, Int.add_mul_emod_self_left]
      rw [show (2 * u + n % 2 + p * 2 * t) % 2 = n % 2 by rw [← h5]]
      exact Int.emod_eq_of_lt (by omega) (by omega)
    exact h6.symm
theorem bits_jn_rev : ∀ r : List Int, Bits r → bitsI (jn r.reverse) r.length = r.reverse ∧ 0 ≤ jn r.reverse ∧ jn r.reverse < 2 ^ r.length
  | [], _ => ⟨rfl, by decide, by decide⟩
  | b :: r, h => by
    obtain ⟨h1, h2, h3⟩ := bits_jn_rev r fun x hx => h x (List.mem_cons_of_mem _ hx)
    have hb := h b List.mem_cons_self
    rw [List.reverse_cons, List.length_cons, jn_snoc, bitsI_succ, show (2 * jn r.reverse + b) / 2 = jn r.reverse by omega, show (2 * jn r.reverse + b) % 2 = b by omega, h1, Int.pow_succ]
    exact ⟨rfl, by omega, by omega⟩
theorem bits_jn {l : List Int} (h : Bits l) : bitsI (jn l) l.length = l ∧ 0 ≤ jn l ∧ jn l < 2 ^ l.length := by
  have := bits_jn_rev l.reverse fun b hb => h b (List.mem_reverse.mp hb)
  rwa [List.reverse_reverse, List.length_reverse] at this
theorem low_rev : ∀ (m : Nat) (n : Int), ((List.range m).map fun j : Nat => n / 2 ^ j % 2).reverse = bitsI n m
  | 0, n => rfl
  | m + 1, n => by
    rw [List.range_succ_eq_map, List.map_cons, List.reverse_cons, List.map_map, bitsI_succ, ← low_rev m (n / 2), Int.pow_zero, Int.ediv_one]
    congr 2
    refine List.map_congr_left fun j _ => ?_
    show n / 2 ^ (j + 1) % 2 = _
    rw [ediv2]
/-! ### what the defs do -/
theorem m2 (i : Int) : mulD (.int 2) (.int i) = some (.int (2 * i)) := ev_mulS (.inl ⟨by decide, by decide⟩)
theorem d2 (i : Int) : fdivD (.int i) (.int 2) = some (.int (i / 2)) := ev_fdivI (by decide) (by decide)
theorem r2 (i : Int) : modD (.int i) (.int 2) = some (.int (i % 2)) := ev_modI (by decide)
theorem low_step {n m q : Sl} {i : Int} {l : List Int} (hq : l.length < 10000) : g__law_low_b1 [.va (.int i), m, .ow (.l (l.map D.int)), q] = .nx [.va (.int (i / 2)), m, .ow (.l ((l ++ [i % 2]).map D.int)), q] := by
  have h : ((l.map D.int).length < sizeLine) = True := by
    rw [List.length_map]
    exact szB (by omega)
  simp only [g__law_low_b1, ev_name, ev_c, ev_op2, ev_op1, ev_toR1, ev_toRL1, ev_nil, ev_cons, ev_opn, ev_opnN, ev_tup, ev_lst, ev_lstN, ev_new, ev_tst, ev_notT, ev_andT, ev_orT, ev_notF, ev_andF, ev_orF, ev_ifF, ev_yes, ev_iter, ev_rng1, ev_rng2, ev_rngW, ev_noP, ev_sl, ev_part, ev_next, ev_noG, ev_seq, ev_drop, ev_ret, ev_retN, ev_if, ev_asg, ev_setA, ev_nilA, ev_consA, ev_seqT, ev_seqL, ev_setN, ev_ok, ev_ioV, ev_ioU, ev_ioW, ev_owV, ev_owU, ev_own, ev_put, ev_ixOwn, ev_lenOwn, ev_setIx, ev_comp, ev_compL0, ev_compL1, ev_okC, ev_wipe1, ev_wipe0, ev_rest1, ev_rest0, ev_call, ev_callN, ev_ofr, ev_ofn, ev_ofnN, ev_mut, ev_mdl, ev_mdi, ev_io, ev_addI, ev_subI, ev_negI, ev_cmpI, ev_eqI, ev_neI, ev_eqS, ev_neS, ev_intI, ev_intB, ev_absI, ev_lenL, ev_lenT, ev_ixL, ev_ixT, ev_at0, ev_at1, ev_at2, ev_i30, ev_i31, ev_i32, ev_pk1, ev_pk2, ev_pk3, ev_pk4, ev_pkw1, ev_pkw2, ev_pkv2, ev_isI, ev_isN, ev_isB, ev_inI, ev_inN, ev_inB, ev_listT, ev_listL, ev_tupT, ev_tupL, ev_fld, ev_insAt, ev_fldOwn, ev_fldG, ev_meth, ev_make, ev_callL, ev_noLI, ev_nilL, ev_nameL, ev_lendL, ev_conL, ev_augIx, ev_putAt, ev_iadd, ev_isub, ev_revT, ev_enum, ev_zip, ev_seqDL, ev_seqDT, ev_nilM, ev_vaM, ev_owM, ev_parM, ev_app, ev_par, ev_par3, ev_lam, ev_ra, ev_xfld, ev_isX, ev_isX_non, ev_hd_found, ev_hd_ret, ev_hd_expr, ev_hd_er, ev_outV, ev_outVn, ev_makeK, ev_band, ev_bxor, ev_bor, ev_aug, ev_trng1, ev_trng2, ev_revE, ev_idxF, ev_pop, R.bind_ok, R.out_ok, Option.bind_some, List.getElem?_cons_succ, List.getElem?_cons_zero, List.set_cons_succ, List.set_cons_zero, List.length_cons, List.length_nil, Nat.reduceAdd, Nat.reduceEqDiff, List.getD_cons_succ, List.getD_cons_zero, decide_true, decide_false, Bool.and_true, Bool.and_self, and_self, true_and, List.all_cons, List.all_nil, Bool.not_true, Bool.not_false, if_true, Bool.true_eq_false, Bool.false_eq_true, if_false, d2, r2, h, List.map_append, List.map_cons, List.map_nil]
theorem low_go (n : Int) (m : Int) (h0 : 0 ≤ m) (h : m ≤ 10000) : ∃ n' q, forL (setA 3) g__law_low_b1 (rngD 0 m) [.va (.int n), .va (.int m), .ow (.l []), .un] = .nx [.va (.int n'), .va (.int m), .ow (.l (((List.range m.toNat).map fun j : Nat => n / 2 ^ j % 2).map D.int)), q] := by
  obtain ⟨s', e, n', q, rfl, _, _⟩ := forL_run (a := setA 3) (G1 := g__law_low_b1) (I := fun k s => ∃ n' q, s = [.va (.int n'), .va (.int m), .ow (.l (((List.range k).map fun j : Nat => n / 2 ^ j % 2).map D.int)), q] ∧ n' = n / 2 ^ k ∧ Pl q) (rngD 0 m) 0 [.va (.int n), .va (.int m), .ow (.l []), .un] ⟨n, .un, rfl, by rw [Int.pow_zero, Int.ediv_one], Pl.un⟩ fun j d s e i => by
    obtain ⟨n', q, rfl, rfl, hq⟩ := i
    have hj := (List.getElem?_eq_some_iff.mp e).1
    rw [rngD_length] at hj
    refine ⟨[.va (.int (n / 2 ^ (0 + j))), .va (.int m), .ow (.l (((List.range (0 + j)).map fun j : Nat => n / 2 ^ j % 2).map D.int)), .va d], _, ?_, .inl (low_step (n := .un) (by rw [List.length_map, List.length_range]; omega)), n / 2 ^ (0 + j) / 2, .va d, ?_, ?_, Pl.va⟩
    · simp only [ev_name, ev_c, ev_op2, ev_op1, ev_toR1, ev_toRL1, ev_nil, ev_cons, ev_opn, ev_opnN, ev_tup, ev_lst, ev_lstN, ev_new, ev_tst, ev_notT, ev_andT, ev_orT, ev_notF, ev_andF, ev_orF, ev_ifF, ev_yes, ev_iter, ev_rng1, ev_rng2, ev_rngW, ev_noP, ev_sl, ev_part, ev_next, ev_noG, ev_seq, ev_drop, ev_ret, ev_retN, ev_if, ev_asg, ev_setA, ev_nilA, ev_consA, ev_seqT, ev_seqL, ev_setN, ev_ok, ev_ioV, ev_ioU, ev_ioW, ev_owV, ev_owU, ev_own, ev_put, ev_ixOwn, ev_lenOwn, ev_setIx, ev_comp, ev_compL0, ev_compL1, ev_okC, ev_wipe1, ev_wipe0, ev_rest1, ev_rest0, ev_call, ev_callN, ev_ofr, ev_ofn, ev_ofnN, ev_mut, ev_mdl, ev_mdi, ev_io, ev_addI, ev_subI, ev_negI, ev_cmpI, ev_eqI, ev_neI, ev_eqS, ev_neS, ev_intI, ev_intB, ev_absI, ev_lenL, ev_lenT, ev_ixL, ev_ixT, ev_at0, ev_at1, ev_at2, ev_i30, ev_i31, ev_i32, ev_pk1, ev_pk2, ev_pk3, ev_pk4, ev_pkw1, ev_pkw2, ev_pkv2, ev_isI, ev_isN, ev_isB, ev_inI, ev_inN, ev_inB, ev_listT, ev_listL, ev_tupT, ev_tupL, ev_fld, ev_insAt, ev_fldOwn, ev_fldG, ev_meth, ev_make, ev_callL, ev_noLI, ev_nilL, ev_nameL, ev_lendL, ev_conL, ev_augIx, ev_putAt, ev_iadd, ev_isub, ev_revT, ev_enum, ev_zip, ev_seqDL, ev_seqDT, ev_nilM, ev_vaM, ev_owM, ev_parM, ev_app, ev_par, ev_par3, ev_lam, ev_ra, ev_xfld, ev_isX, ev_isX_non, ev_hd_found, ev_hd_ret, ev_hd_expr, ev_hd_er, ev_outV, ev_outVn, ev_makeK, ev_band, ev_bxor, ev_bor, ev_aug, ev_trng1, ev_trng2, ev_revE, ev_idxF, ev_pop, R.bind_ok, R.out_ok, Option.bind_some, List.getElem?_cons_succ, List.getElem?_cons_zero, List.set_cons_succ, List.set_cons_zero, List.length_cons, List.length_nil, Nat.reduceAdd, Nat.reduceEqDiff, List.getD_cons_succ, List.getD_cons_zero, decide_true, decide_false, Bool.and_true, Bool.and_self, and_self, true_and, List.all_cons, List.all_nil, Bool.not_true, Bool.not_false, if_true, Bool.true_eq_false, Bool.false_eq_true, if_false, hq.1]
    · rw [List.range_succ, List.map_append (f := fun j : Nat => n / 2 ^ j % 2)]
      rfl
    · rw [Int.pow_succ, Int.ediv_ediv_of_nonneg (by exact Int.le_of_lt (Int.pow_pos (by decide)))]
  refine ⟨n', q, ?_⟩
  rw [e, rngD_length, show 0 + (m - 0).toNat = m.toNat by omega]
theorem low (n : Int) (m : Int) (h0 : 0 ≤ m) (h : m ≤ 10000) : F__law_low [.int n, .int m] = .retn ((bitsI n m.toNat).map D.int) (.l []) := by
  obtain ⟨n', q, e⟩ := low_go n m h0 h
  have e2 := forE (rng1E (f := nameF 1) (s := [.va (.int n), .va (.int m), .ow (.l []), .un]) rfl (sm_of (m := m) h0 (by omega))) e
  have e3 : (((List.range m.toNat).map fun j : Nat => n / 2 ^ j % 2).map D.int).reverse = (bitsI n m.toNat).map D.int := by
    rw [← List.map_reverse, low_rev]
  show outF false (g__law_low [.va (.int n), .va (.int m), .un, .un]) = _
  simp only [g__law_low, ev_name, ev_c, ev_op2, ev_op1, ev_toR1, ev_toRL1, ev_nil, ev_cons, ev_opn, ev_opnN, ev_tup, ev_lst, ev_lstN, ev_new, ev_tst, ev_notT, ev_andT, ev_orT, ev_notF, ev_andF, ev_orF, ev_ifF, ev_yes, ev_iter, ev_rng1, ev_rng2, ev_rngW, ev_noP, ev_sl, ev_part, ev_next, ev_noG, ev_seq, ev_drop, ev_ret, ev_retN, ev_if, ev_asg, ev_setA, ev_nilA, ev_consA, ev_seqT, ev_seqL, ev_setN, ev_ok, ev_ioV, ev_ioU, ev_ioW, ev_owV, ev_owU, ev_own, ev_put, ev_ixOwn, ev_lenOwn, ev_setIx, ev_comp, ev_compL0, ev_compL1, ev_okC, ev_wipe1, ev_wipe0, ev_rest1, ev_rest0, ev_call, ev_callN, ev_ofr, ev_ofn, ev_ofnN, ev_mut, ev_mdl, ev_mdi, ev_io, ev_addI, ev_subI, ev_negI, ev_cmpI, ev_eqI, ev_neI, ev_eqS, ev_neS, ev_intI, ev_intB, ev_absI, ev_lenL, ev_lenT, ev_ixL, ev_ixT, ev_at0, ev_at1, ev_at2, ev_i30, ev_i31, ev_i32, ev_pk1, ev_pk2, ev_pk3, ev_pk4, ev_pkw1, ev_pkw2, ev_pkv2, ev_isI, ev_isN, ev_isB, ev_inI, ev_inN, ev_inB, ev_listT, ev_listL, ev_tupT, ev_tupL, ev_fld, ev_insAt, ev_fldOwn, ev_fldG, ev_meth, ev_make, ev_callL, ev_noLI, ev_nilL, ev_nameL, ev_lendL, ev_conL, ev_augIx, ev_putAt, ev_iadd, ev_isub, ev_revT, ev_enum, ev_zip, ev_seqDL, ev_seqDT, ev_nilM, ev_vaM, ev_owM, ev_parM, ev_app, ev_par, ev_par3, ev_lam, ev_ra, ev_xfld, ev_isX, ev_isX_non, ev_hd_found, ev_hd_ret, ev_hd_expr, ev_hd_er, ev_outV, ev_outVn, ev_makeK, ev_band, ev_bxor, ev_bor, ev_aug, ev_trng1, ev_trng2, ev_revE, ev_idxF, ev_pop, R.bind_ok, R.out_ok, Option.bind_some, List.getElem?_cons_succ, List.getElem?_cons_zero, List.set_cons_succ, List.set_cons_zero, List.length_cons, List.length_nil, Nat.reduceAdd, Nat.reduceEqDiff, List.getD_cons_succ, List.getD_cons_zero, decide_true, decide_false, Bool.and_true, Bool.and_self, and_self, true_and, List.all_cons, List.all_nil, Bool.not_true, Bool.not_false, if_true, Bool.true_eq_false, Bool.false_eq_true, if_false, ev_revL, e2, Nat.zero_le, e3]
  rfl
theorem bt_e {n m j : Int} (h : 0 ≤ m - 1 - j) : ∀ s : List Sl, op2F bandD (op2F shrD (nameF 0) (op2F subD (op2F subD (nameF 1) (cF (.int 1))) (nameF 2))) (cF (.int 1)) [.va (.int n), .va (.int m), .va (.int j)] = .ok (.int (n / 2 ^ (m - 1 - j).toNat % 2)) [.va (.int n), .va (.int m), .va (.int j)] := fun s => by
  simp only [ev_name, ev_c, ev_op2, ev_op1, ev_toR1, ev_toRL1, ev_nil, ev_cons, ev_opn, ev_opnN, ev_tup, ev_lst, ev_lstN, ev_new, ev_tst, ev_notT, ev_andT, ev_orT, ev_notF, ev_andF, ev_orF, ev_ifF, ev_yes, ev_iter, ev_rng1, ev_rng2, ev_rngW, ev_noP, ev_sl, ev_part, ev_next, ev_noG, ev_seq, ev_drop, ev_ret, ev_retN, ev_if, ev_asg, ev_setA, ev_nilA, ev_consA, ev_seqT, ev_seqL, ev_setN, ev_ok, ev_ioV, ev_ioU, ev_ioW, ev_owV, ev_owU, ev_own, ev_put, ev_ixOwn, ev_lenOwn, ev_setIx, ev_okC, ev_wipe1, ev_wipe0, ev_rest1, ev_rest0, ev_call, ev_callN, ev_ofr, ev_ofn, ev_ofnN, ev_mut, ev_mdl, ev_mdi, ev_io, ev_addI, ev_subI, ev_negI, ev_cmpI, ev_eqI, ev_neI, ev_eqS, ev_neS, ev_intI, ev_intB, ev_absI, ev_lenL, ev_lenT, ev_ixL, ev_ixT, ev_at0, ev_at1, ev_at2, ev_i30, ev_i31, ev_i32, ev_pk1, ev_pk2, ev_pk3, ev_pk4, ev_pkw1, ev_pkw2, ev_pkv2, ev_isI, ev_isN, ev_isB, ev_inI, ev_inN, ev_inB, ev_listT, ev_listL, ev_tupT, ev_tupL, ev_fld, ev_insAt, ev_fldOwn, ev_fldG, ev_meth, ev_make, ev_callL, ev_noLI, ev_nilL, ev_nameL, ev_lendL, ev_conL, ev_augIx, ev_putAt, ev_iadd, ev_isub, ev_revT, ev_enum, ev_zip, ev_seqDL, ev_seqDT, ev_nilM, ev_vaM, ev_owM, ev_parM, ev_app, ev_par, ev_par3, ev_lam, ev_ra, ev_xfld, ev_isX, ev_isX_non, ev_hd_found, ev_hd_ret, ev_hd_expr, ev_hd_er, ev_outV, ev_outVn, ev_makeK, ev_band, ev_bxor, ev_bor, ev_aug, ev_trng1, ev_trng2, ev_revE, ev_idxF, ev_pop, R.bind_ok, R.out_ok, Option.bind_some, List.getElem?_cons_succ, List.getElem?_cons_zero, List.set_cons_succ, List.set_cons_zero, List.length_cons, List.length_nil, Nat.reduceAdd, Nat.reduceEqDiff, List.getD_cons_succ, List.getD_cons_zero, decide_true, decide_false, Bool.and_true, Bool.and_self, and_self, true_and, List.all_cons, List.all_nil, Bool.not_true, Bool.not_false, if_true, Bool.true_eq_false, Bool.false_eq_true, if_false, ev_shr h, bitAnd_m1]
theorem lowest (n : Int) (m : Int) (h0 : 0 ≤ m) (h : m ≤ 10000) : F_lowest_bits [.int n, .int m] = .retn ((bitsI n m.toNat).map D.int) (.l []) := by
  have hc : compN (rng1F (nameF 1)) [2] (setA 2) yesT (op2F bandD (op2F shrD (nameF 0) (op2F subD (op2F subD (nameF 1) (cF (.int 1))) (nameF 2))) (cF (.int 1))) [.va (.int n), .va (.int m), .un] = .ok ((intsR 0 m).map fun j => D.int (n / 2 ^ (m - 1 - j).toNat % 2)) [.va (.int n), .va (.int m), .un] := by
    refine compN_src1 D.int (fun j => D.int (n / 2 ^ (m - 1 - j).toNat % 2)) (xs := intsR 0 m) ?_ (by rw [ints_len, sizeLine_eq]; omega) (y0 := .un) rfl Pl.un rfl fun x hx => ?_
    · rw [← rngD_ints]
      exact rng1E rfl (sm_of h0 (by omega))
    · unfold intsR at hx
      obtain ⟨j, hj, rfl⟩ := List.mem_map.mp hx
      rw [List.mem_range] at hj
      exact bt_e (by omega) []
  have e : (bitsI n m.toNat).map D.int = (intsR 0 m).map fun j => D.int (n / 2 ^ (m - 1 - j).toNat % 2) := by
    unfold bitsI intsR
    rw [List.map_map, List.map_map, show (m - 0).toNat = m.toNat by omega]
    refine List.map_congr_left fun j hj => ?_
    rw [List.mem_range] at hj
    show D.int _ = D.int _
    rw [show (m - 1 - (0 + (j : Int))).toNat = m.toNat - 1 - j by omega]
  rw [e]
  show outF false (g_lowest_bits [.va (.int n), .va (.int m), .un]) = _
  simp only [g_lowest_bits, ev_name, ev_c, ev_op2, ev_op1, ev_toR1, ev_toRL1, ev_nil, ev_cons, ev_opn, ev_opnN, ev_tup, ev_lst, ev_lstN, ev_new, ev_tst, ev_notT, ev_andT, ev_orT, ev_notF, ev_andF, ev_orF, ev_ifF, ev_yes, ev_iter, ev_rng1, ev_rng2, ev_rngW, ev_noP, ev_sl, ev_part, ev_next, ev_noG, ev_seq, ev_drop, ev_ret, ev_retN, ev_if, ev_asg, ev_setA, ev_nilA, ev_consA, ev_seqT, ev_seqL, ev_setN, ev_ok, ev_ioV, ev_ioU, ev_ioW, ev_owV, ev_owU, ev_own, ev_put, ev_ixOwn, ev_lenOwn, ev_setIx, ev_okC, ev_wipe1, ev_wipe0, ev_rest1, ev_rest0, ev_call, ev_callN, ev_ofr, ev_ofn, ev_ofnN, ev_mut, ev_mdl, ev_mdi, ev_io, ev_addI, ev_subI, ev_negI, ev_cmpI, ev_eqI, ev_neI, ev_eqS, ev_neS, ev_intI, ev_intB, ev_absI, ev_lenL, ev_lenT, ev_ixL, ev_ixT, ev_at0, ev_at1, ev_at2, ev_i30, ev_i31, ev_i32, ev_pk1, ev_pk2, ev_pk3, ev_pk4, ev_pkw1, ev_pkw2, ev_pkv2, ev_isI, ev_isN, ev_isB, ev_inI, ev_inN, ev_inB, ev_listT, ev_listL, ev_tupT, ev_tupL, ev_fld, ev_insAt, ev_fldOwn, ev_fldG, ev_meth, ev_make, ev_callL, ev_noLI, ev_nilL, ev_nameL, ev_lendL, ev_conL, ev_augIx, ev_putAt, ev_iadd, ev_isub, ev_revT, ev_enum, ev_zip, ev_seqDL, ev_seqDT, ev_nilM, ev_vaM, ev_owM, ev_parM, ev_app, ev_par, ev_par3, ev_lam, ev_ra, ev_xfld, ev_isX, ev_isX_non, ev_hd_found, ev_hd_ret, ev_hd_expr, ev_hd_er, ev_outV, ev_outVn, ev_makeK, ev_band, ev_bxor, ev_bor, ev_aug, ev_trng1, ev_trng2, ev_revE, ev_idxF, ev_pop, R.bind_ok, R.out_ok, Option.bind_some, List.getElem?_cons_succ, List.getElem?_cons_zero, List.set_cons_succ, List.set_cons_zero, List.length_cons, List.length_nil, Nat.reduceAdd, Nat.reduceEqDiff, List.getD_cons_succ, List.getD_cons_zero, decide_true, decide_false, Bool.and_true, Bool.and_self, and_self, true_and, List.all_cons, List.all_nil, Bool.not_true, Bool.not_false, if_true, Bool.true_eq_false, Bool.false_eq_true, if_false, hc]
  rfl
/-! ### digits and powers -/
def dg (n : Nat) : Nat := if n = 0 then 0 else n.log2 + 1
theorem dg_lt (n : Nat) : n < 2 ^ dg n := by
  unfold dg
  split
  · rename_i h
    rw [h]
    decide
  · rename_i h
    exact (Nat.log2_lt h).mp (Nat.lt_succ_self _)
theorem dg_le {n k : Nat} (h : k < dg n) : 2 ^ k ≤ n := by
  unfold dg at h
  split at h
  · exact absurd h (Nat.not_lt_zero _)
  · rename_i h0
    exact (Nat.le_log2 h0).mp (by omega)
theorem dg_small {n k : Nat} (h : n < 2 ^ k) : dg n ≤ k := by
  by_cases e : dg n ≤ k
  · exact e
  · have := dg_le (n := n) (k := k) (by omega)
    omega
theorem law_digits (n : Nat) (h : dg n ≤ 1000) : F__law_digits [.int n] = .ret (.int (dg n)) (.l []) := by
  obtain ⟨s', e, rfl⟩ := whileL_run (u := tstF (op2F gtD (nameF 0) (cF (.int 0)))) (g := g__law_digits_b1) (I := fun m s => m ≤ dg n ∧ s = [.va (.int ((n / 2 ^ (dg n - m) : Nat) : Int)), .va (.int ((dg n - m : Nat) : Int))]) (J := fun s => s = [.va (.int ((n / 2 ^ dg n : Nat) : Int)), .va (.int (dg n))])
    (fun m s i => by
      obtain ⟨hm, rfl⟩ := i
      refine ⟨[.va (.int ((n / 2 ^ (dg n - (m + 1)) : Nat) : Int)), .va (.int ((dg n - (m + 1) : Nat) : Int))], [.va (.int ((n / 2 ^ (dg n - m) : Nat) : Int)), .va (.int ((dg n - m : Nat) : Int))], ?_, .inl ?_, by omega, rfl⟩
      · have h1 : 2 ^ (dg n - (m + 1)) ≤ n := dg_le (by omega)
        have h2 : 0 < n / 2 ^ (dg n - (m + 1)) := Nat.div_pos h1 (Nat.two_pow_pos _)
        have h3 : decide ((0 : Int) < ((n / 2 ^ (dg n - (m + 1)) : Nat) : Int)) = true := decide_eq_true (by omega)
        simp only [ev_name, ev_c, ev_op2, ev_op1, ev_toR1, ev_toRL1, ev_nil, ev_cons, ev_opn, ev_opnN, ev_tup, ev_lst, ev_lstN, ev_new, ev_tst, ev_notT, ev_andT, ev_orT, ev_notF, ev_andF, ev_orF, ev_ifF, ev_yes, ev_iter, ev_rng1, ev_rng2, ev_rngW, ev_noP, ev_sl, ev_part, ev_next, ev_noG, ev_seq, ev_drop, ev_ret, ev_retN, ev_if, ev_asg, ev_setA, ev_nilA, ev_consA, ev_seqT, ev_seqL, ev_setN, ev_ok, ev_ioV, ev_ioU, ev_ioW, ev_owV, ev_owU, ev_own, ev_put, ev_ixOwn, ev_lenOwn, ev_setIx, ev_comp, ev_compL0, ev_compL1, ev_okC, ev_wipe1, ev_wipe0, ev_rest1, ev_rest0, ev_call, ev_callN, ev_ofr, ev_ofn, ev_ofnN, ev_mut, ev_mdl, ev_mdi, ev_io, ev_addI, ev_subI, ev_negI, ev_cmpI, ev_eqI, ev_neI, ev_eqS, ev_neS, ev_intI, ev_intB, ev_absI, ev_lenL, ev_lenT, ev_ixL, ev_ixT, ev_at0, ev_at1, ev_at2, ev_i30, ev_i31, ev_i32, ev_pk1, ev_pk2, ev_pk3, ev_pk4, ev_pkw1, ev_pkw2, ev_pkv2, ev_isI, ev_isN, ev_isB, ev_inI, ev_inN, ev_inB, ev_listT, ev_listL, ev_tupT, ev_tupL, ev_fld, ev_insAt, ev_fldOwn, ev_fldG, ev_meth, ev_make, ev_callL, ev_noLI, ev_nilL, ev_nameL, ev_lendL, ev_conL, ev_augIx, ev_putAt, ev_iadd, ev_isub, ev_revT, ev_enum, ev_zip, ev_seqDL, ev_seqDT, ev_nilM, ev_vaM, ev_owM, ev_parM, ev_app, ev_par, ev_par3, ev_lam, ev_ra, ev_xfld, ev_isX, ev_isX_non, ev_hd_found, ev_hd_ret, ev_hd_expr, ev_hd_er, ev_outV, ev_outVn, ev_makeK, ev_band, ev_bxor, ev_bor, ev_aug, ev_trng1, ev_trng2, ev_revE, ev_idxF, ev_pop, R.bind_ok, R.out_ok, Option.bind_some, List.getElem?_cons_succ, List.getElem?_cons_zero, List.set_cons_succ, List.set_cons_zero, List.length_cons, List.length_nil, Nat.reduceAdd, Nat.reduceEqDiff, List.getD_cons_succ, List.getD_cons_zero, decide_true, decide_false, Bool.and_true, Bool.and_self, and_self, true_and, List.all_cons, List.all_nil, Bool.not_true, Bool.not_false, if_true, Bool.true_eq_false, Bool.false_eq_true, if_false, h3]
      · have h1 : ((dg n - (m + 1) : Nat) : Int) + 1 = ((dg n - m : Nat) : Int) := by omega
        have h2 : ((n / 2 ^ (dg n - (m + 1)) : Nat) : Int) / 2 = ((n / 2 ^ (dg n - m) : Nat) : Int) := by
          have h3 : dg n - m = (dg n - (m + 1)) + 1 := by omega
          rw [h3, Nat.pow_succ, ← Nat.div_div_eq_div_mul]
          rfl
        simp only [g__law_digits_b1, ev_name, ev_c, ev_op2, ev_op1, ev_toR1, ev_toRL1, ev_nil, ev_cons, ev_opn, ev_opnN, ev_tup, ev_lst, ev_lstN, ev_new, ev_tst, ev_notT, ev_andT, ev_orT, ev_notF, ev_andF, ev_orF, ev_ifF, ev_yes, ev_iter, ev_rng1, ev_rng2, ev_rngW, ev_noP, ev_sl, ev_part, ev_next, ev_noG, ev_seq, ev_drop, ev_ret, ev_retN, ev_if, ev_asg, ev_setA, ev_nilA, ev_consA, ev_seqT, ev_seqL, ev_setN, ev_ok, ev_ioV, ev_ioU, ev_ioW, ev_owV, ev_owU, ev_own, ev_put, ev_ixOwn, ev_lenOwn, ev_setIx, ev_comp, ev_compL0, ev_compL1, ev_okC, ev_wipe1, ev_wipe0, ev_rest1, ev_rest0, ev_call, ev_callN, ev_ofr, ev_ofn, ev_ofnN, ev_mut, ev_mdl, ev_mdi, ev_io, ev_addI, ev_subI, ev_negI, ev_cmpI, ev_eqI, ev_neI, ev_eqS, ev_neS, ev_intI, ev_intB, ev_absI, ev_lenL, ev_lenT, ev_ixL, ev_ixT, ev_at0, ev_at1, ev_at2, ev_i30, ev_i31, ev_i32, ev_pk1, ev_pk2, ev_pk3, ev_pk4, ev_pkw1, ev_pkw2, ev_pkv2, ev_isI, ev_isN, ev_isB, ev_inI, ev_inN, ev_inB, ev_listT, ev_listL, ev_tupT, ev_tupL, ev_fld, ev_insAt, ev_fldOwn, ev_fldG, ev_meth, ev_make, ev_callL, ev_noLI, ev_nilL, ev_nameL, ev_lendL, ev_conL, ev_augIx, ev_putAt, ev_iadd, ev_isub, ev_revT, ev_enum, ev_zip, ev_seqDL, ev_seqDT, ev_nilM, ev_vaM, ev_owM, ev_parM, ev_app, ev_par, ev_par3, ev_lam, ev_ra, ev_xfld, ev_isX, ev_isX_non, ev_hd_found, ev_hd_ret, ev_hd_expr, ev_hd_er, ev_outV, ev_outVn, ev_makeK, ev_band, ev_bxor, ev_bor, ev_aug, ev_trng1, ev_trng2, ev_revE, ev_idxF, ev_pop, R.bind_ok, R.out_ok, Option.bind_some, List.getElem?_cons_succ, List.getElem?_cons_zero, List.set_cons_succ, List.set_cons_zero, List.length_cons, List.length_nil, Nat.reduceAdd, Nat.reduceEqDiff, List.getD_cons_succ, List.getD_cons_zero, decide_true, decide_false, Bool.and_true, Bool.and_self, and_self, true_and, List.all_cons, List.all_nil, Bool.not_true, Bool.not_false, if_true, Bool.true_eq_false, Bool.false_eq_true, if_false, d2, h1, h2])
    (fun s i => by
      obtain ⟨_, rfl⟩ := i
      refine ⟨_, ?_, rfl⟩
      have h2 : n / 2 ^ dg n = 0 := Nat.div_eq_of_lt (dg_lt n)
      simp only [ev_name, ev_c, ev_op2, ev_op1, ev_toR1, ev_toRL1, ev_nil, ev_cons, ev_opn, ev_opnN, ev_tup, ev_lst, ev_lstN, ev_new, ev_tst, ev_notT, ev_andT, ev_orT, ev_notF, ev_andF, ev_orF, ev_ifF, ev_yes, ev_iter, ev_rng1, ev_rng2, ev_rngW, ev_noP, ev_sl, ev_part, ev_next, ev_noG, ev_seq, ev_drop, ev_ret, ev_retN, ev_if, ev_asg, ev_setA, ev_nilA, ev_consA, ev_seqT, ev_seqL, ev_setN, ev_ok, ev_ioV, ev_ioU, ev_ioW, ev_owV, ev_owU, ev_own, ev_put, ev_ixOwn, ev_lenOwn, ev_setIx, ev_comp, ev_compL0, ev_compL1, ev_okC, ev_wipe1, ev_wipe0, ev_rest1, ev_rest0, ev_call, ev_callN, ev_ofr, ev_ofn, ev_ofnN, ev_mut, ev_mdl, ev_mdi, ev_io, ev_addI, ev_subI, ev_negI, ev_cmpI, ev_eqI, ev_neI, ev_eqS, ev_neS, ev_intI, ev_intB, ev_absI, ev_lenL, ev_lenT, ev_ixL, ev_ixT, ev_at0, ev_at1, ev_at2, ev_i30, ev_i31, ev_i32, ev_pk1, ev_pk2, ev_pk3, ev_pk4, ev_pkw1, ev_pkw2, ev_pkv2, ev_isI, ev_isN, ev_isB, ev_inI, ev_inN, ev_inB, ev_listT, ev_listL, ev_tupT, ev_tupL, ev_fld, ev_insAt, ev_fldOwn, ev_fldG, ev_meth, ev_make, ev_callL, ev_noLI, ev_nilL, ev_nameL, ev_lendL, ev_conL, ev_augIx, ev_putAt, ev_iadd, ev_isub, ev_revT, ev_enum, ev_zip, ev_seqDL, ev_seqDT, ev_nilM, ev_vaM, ev_owM, ev_parM, ev_app, ev_par, ev_par3, ev_lam, ev_ra, ev_xfld, ev_isX, ev_isX_non, ev_hd_found, ev_hd_ret, ev_hd_expr, ev_hd_er, ev_outV, ev_outVn, ev_makeK, ev_band, ev_bxor, ev_bor, ev_aug, ev_trng1, ev_trng2, ev_revE, ev_idxF, ev_pop, R.bind_ok, R.out_ok, Option.bind_some, List.getElem?_cons_succ, List.getElem?_cons_zero, List.set_cons_succ, List.set_cons_zero, List.length_cons, List.length_nil, Nat.reduceAdd, Nat.reduceEqDiff, List.getD_cons_succ, List.getD_cons_zero, decide_true, decide_false, Bool.and_true, Bool.and_self, and_self, true_and, List.all_cons, List.all_nil, Bool.not_true, Bool.not_false, if_true, Bool.true_eq_false, Bool.false_eq_true, if_false, Nat.sub_zero, h2]
      rfl)
    (dg n) 1000000 [.va (.int n), .va (.int 0)] (by omega) ⟨Nat.le_refl _, by rw [Nat.sub_self, Nat.pow_zero, Nat.div_one]; rfl⟩
  show outF false (g__law_digits [.va (.int n), .un]) = _
  simp only [g__law_digits, ev_name, ev_c, ev_op2, ev_op1, ev_toR1, ev_toRL1, ev_nil, ev_cons, ev_opn, ev_opnN, ev_tup, ev_lst, ev_lstN, ev_new, ev_tst, ev_notT, ev_andT, ev_orT, ev_notF, ev_andF, ev_orF, ev_ifF, ev_yes, ev_iter, ev_rng1, ev_rng2, ev_rngW, ev_noP, ev_sl, ev_part, ev_next, ev_noG, ev_seq, ev_drop, ev_ret, ev_retN, ev_if, ev_asg, ev_setA, ev_nilA, ev_consA, ev_seqT, ev_seqL, ev_setN, ev_ok, ev_ioV, ev_ioU, ev_ioW, ev_owV, ev_owU, ev_own, ev_put, ev_ixOwn, ev_lenOwn, ev_setIx, ev_comp, ev_compL0, ev_compL1, ev_okC, ev_wipe1, ev_wipe0, ev_rest1, ev_rest0, ev_call, ev_callN, ev_ofr, ev_ofn, ev_ofnN, ev_mut, ev_mdl, ev_mdi, ev_io, ev_addI, ev_subI, ev_negI, ev_cmpI, ev_eqI, ev_neI, ev_eqS, ev_neS, ev_intI, ev_intB, ev_absI, ev_lenL, ev_lenT, ev_ixL, ev_ixT, ev_at0, ev_at1, ev_at2, ev_i30, ev_i31, ev_i32, ev_pk1, ev_pk2, ev_pk3, ev_pk4, ev_pkw1, ev_pkw2, ev_pkv2, ev_isI, ev_isN, ev_isB, ev_inI, ev_inN, ev_inB, ev_listT, ev_listL, ev_tupT, ev_tupL, ev_fld, ev_insAt, ev_fldOwn, ev_fldG, ev_meth, ev_make, ev_callL, ev_noLI, ev_nilL, ev_nameL, ev_lendL, ev_conL, ev_augIx, ev_putAt, ev_iadd, ev_isub, ev_revT, ev_enum, ev_zip, ev_seqDL, ev_seqDT, ev_nilM, ev_vaM, ev_owM, ev_parM, ev_app, ev_par, ev_par3, ev_lam, ev_ra, ev_xfld, ev_isX, ev_isX_non, ev_hd_found, ev_hd_ret, ev_hd_expr, ev_hd_er, ev_outV, ev_outVn, ev_makeK, ev_band, ev_bxor, ev_bor, ev_aug, ev_trng1, ev_trng2, ev_revE, ev_idxF, ev_pop, R.bind_ok, R.out_ok, Option.bind_some, List.getElem?_cons_succ, List.getElem?_cons_zero, List.set_cons_succ, List.set_cons_zero, List.length_cons, List.length_nil, Nat.reduceAdd, Nat.reduceEqDiff, List.getD_cons_succ, List.getD_cons_zero, decide_true, decide_false, Bool.and_true, Bool.and_self, and_self, true_and, List.all_cons, List.all_nil, Bool.not_true, Bool.not_false, if_true, Bool.true_eq_false, Bool.false_eq_true, if_false, e]
  rfl
theorem power1 (m : Nat) : ∃ q i s', forL (setA 2) g__law_power_b1 (rngD 0 (m : Int)) [.va (.int m), .va (.int 1), .un] = .nx s' ∧ s' = [.va (.int m), .va (.int i), q] ∧ i = ((2 ^ m : Nat) : Int) ∧ Pl q := by
  obtain ⟨s', e, q, i, rfl, ei, h⟩ := forL_run (a := setA 2) (G1 := g__law_power_b1) (I := fun k s => ∃ q i, s = [.va (.int m), .va (.int i), q] ∧ i = ((2 ^ k : Nat) : Int) ∧ Pl q) (rngD 0 (m : Int)) 0 [.va (.int m), .va (.int 1), .un] ⟨.un, 1, rfl, rfl, Pl.un⟩ fun j d s e i => by
    obtain ⟨q, i, rfl, ei, hq⟩ := i
    have st : ∀ {m' q : Sl} {i : Int}, g__law_power_b1 [m', .va (.int i), q] = .nx [m', .va (.int (2 * i)), q] := by
      intro m' q i
      simp only [g__law_power_b1, ev_name, ev_c, ev_op2, ev_op1, ev_toR1, ev_toRL1, ev_nil, ev_cons, ev_opn, ev_opnN, ev_tup, ev_lst, ev_lstN, ev_new, ev_tst, ev_notT, ev_andT, ev_orT, ev_notF, ev_andF, ev_orF, ev_ifF, ev_yes, ev_iter, ev_rng1, ev_rng2, ev_rngW, ev_noP, ev_sl, ev_part, ev_next, ev_noG, ev_seq, ev_drop, ev_ret, ev_retN, ev_if, ev_asg, ev_setA, ev_nilA, ev_consA, ev_seqT, ev_seqL, ev_setN, ev_ok, ev_ioV, ev_ioU, ev_ioW, ev_owV, ev_owU, ev_own, ev_put, ev_ixOwn, ev_lenOwn, ev_setIx, ev_comp, ev_compL0, ev_compL1, ev_okC, ev_wipe1, ev_wipe0, ev_rest1, ev_rest0, ev_call, ev_callN, ev_ofr, ev_ofn, ev_ofnN, ev_mut, ev_mdl, ev_mdi, ev_io, ev_addI, ev_subI, ev_negI, ev_cmpI, ev_eqI, ev_neI, ev_eqS, ev_neS, ev_intI, ev_intB, ev_absI, ev_lenL, ev_lenT, ev_ixL, ev_ixT, ev_at0, ev_at1, ev_at2, ev_i30, ev_i31, ev_i32, ev_pk1, ev_pk2, ev_pk3, ev_pk4, ev_pkw1, ev_pkw2, ev_pkv2, ev_isI, ev_isN, ev_isB, ev_inI, ev_inN, ev_inB, ev_listT, ev_listL, ev_tupT, ev_tupL, ev_fld, ev_insAt, ev_fldOwn, ev_fldG, ev_meth, ev_make, ev_callL, ev_noLI, ev_nilL, ev_nameL, ev_lendL, ev_conL, ev_augIx, ev_putAt, ev_iadd, ev_isub, ev_revT, ev_enum, ev_zip, ev_seqDL, ev_seqDT, ev_nilM, ev_vaM, ev_owM, ev_parM, ev_app, ev_par, ev_par3, ev_lam, ev_ra, ev_xfld, ev_isX, ev_isX_non, ev_hd_found, ev_hd_ret, ev_hd_expr, ev_hd_er, ev_outV, ev_outVn, ev_makeK, ev_band, ev_bxor, ev_bor, ev_aug, ev_trng1, ev_trng2, ev_revE, ev_idxF, ev_pop, R.bind_ok, R.out_ok, Option.bind_some, List.getElem?_cons_succ, List.getElem?_cons_zero, List.set_cons_succ, List.set_cons_zero, List.length_cons, List.length_nil, Nat.reduceAdd, Nat.reduceEqDiff, List.getD_cons_succ, List.getD_cons_zero, decide_true, decide_false, Bool.and_true, Bool.and_self, and_self, true_and, List.all_cons, List.all_nil, Bool.not_true, Bool.not_false, if_true, Bool.true_eq_false, Bool.false_eq_true, if_false, m2]
    refine ⟨[.va (.int m), .va (.int i), .va d], [.va (.int m), .va (.int (2 * i)), .va d], ?_, .inl st, .va d, _, rfl, ?_, Pl.va⟩
    · simp only [ev_name, ev_c, ev_op2, ev_op1, ev_toR1, ev_toRL1, ev_nil, ev_cons, ev_opn, ev_opnN, ev_tup, ev_lst, ev_lstN, ev_new, ev_tst, ev_notT, ev_andT, ev_orT, ev_notF, ev_andF, ev_orF, ev_ifF, ev_yes, ev_iter, ev_rng1, ev_rng2, ev_rngW, ev_noP, ev_sl, ev_part, ev_next, ev_noG, ev_seq, ev_drop, ev_ret, ev_retN, ev_if, ev_asg, ev_setA, ev_nilA, ev_consA, ev_seqT, ev_seqL, ev_setN, ev_ok, ev_ioV, ev_ioU, ev_ioW, ev_owV, ev_owU, ev_own, ev_put, ev_ixOwn, ev_lenOwn, ev_setIx, ev_comp, ev_compL0, ev_compL1, ev_okC, ev_wipe1, ev_wipe0, ev_rest1, ev_rest0, ev_call, ev_callN, ev_ofr, ev_ofn, ev_ofnN, ev_mut, ev_mdl, ev_mdi, ev_io, ev_addI, ev_subI, ev_negI, ev_cmpI, ev_eqI, ev_neI, ev_eqS, ev_neS, ev_intI, ev_intB, ev_absI, ev_lenL, ev_lenT, ev_ixL, ev_ixT, ev_at0, ev_at1, ev_at2, ev_i30, ev_i31, ev_i32, ev_pk1, ev_pk2, ev_pk3, ev_pk4, ev_pkw1, ev_pkw2, ev_pkv2, ev_isI, ev_isN, ev_isB, ev_inI, ev_inN, ev_inB, ev_listT, ev_listL, ev_tupT, ev_tupL, ev_fld, ev_insAt, ev_fldOwn, ev_fldG, ev_meth, ev_make, ev_callL, ev_noLI, ev_nilL, ev_nameL, ev_lendL, ev_conL, ev_augIx, ev_putAt, ev_iadd, ev_isub, ev_revT, ev_enum, ev_zip, ev_seqDL, ev_seqDT, ev_nilM, ev_vaM, ev_owM, ev_parM, ev_app, ev_par, ev_par3, ev_lam, ev_ra, ev_xfld, ev_isX, ev_isX_non, ev_hd_found, ev_hd_ret, ev_hd_expr, ev_hd_er, ev_outV, ev_outVn, ev_makeK, ev_band, ev_bxor, ev_bor, ev_aug, ev_trng1, ev_trng2, ev_revE, ev_idxF, ev_pop, R.bind_ok, R.out_ok, Option.bind_some, List.getElem?_cons_succ, List.getElem?_cons_zero, List.set_cons_succ, List.set_cons_zero, List.length_cons, List.length_nil, Nat.reduceAdd, Nat.reduceEqDiff, List.getD_cons_succ, List.getD_cons_zero, decide_true, decide_false, Bool.and_true, Bool.and_self, and_self, true_and, List.all_cons, List.all_nil, Bool.not_true, Bool.not_false, if_true, Bool.true_eq_false, Bool.false_eq_true, if_false, hq.1]
    · rw [ei, Nat.pow_succ]
      omega
  rw [rngD_length, show 0 + ((m : Int) - 0).toNat = m by omega] at ei
  exact ⟨q, i, _, e, rfl, ei, h⟩
theorem power4 {M i : Int} {q : Sl} (e : forG (rng1F (nameF 0)) (setA 2) g__law_power_b1 [.va (.int M), .va (.int 1), .un] = .nx [.va (.int M), .va (.int i), q]) : F__law_power [.int M] = .ret (.int i) (.l []) := by
  show outF false (g__law_power [.va (.int M), .un, .un]) = _
  simp only [g__law_power, ev_name, ev_c, ev_op2, ev_op1, ev_toR1, ev_toRL1, ev_nil, ev_cons, ev_opn, ev_opnN, ev_tup, ev_lst, ev_lstN, ev_new, ev_tst, ev_notT, ev_andT, ev_orT, ev_notF, ev_andF, ev_orF, ev_ifF, ev_yes, ev_iter, ev_rng1, ev_rng2, ev_rngW, ev_noP, ev_sl, ev_part, ev_next, ev_noG, ev_seq, ev_drop, ev_ret, ev_retN, ev_if, ev_asg, ev_setA, ev_nilA, ev_consA, ev_seqT, ev_seqL, ev_setN, ev_ok, ev_ioV, ev_ioU, ev_ioW, ev_owV, ev_owU, ev_own, ev_put, ev_ixOwn, ev_lenOwn, ev_setIx, ev_comp, ev_compL0, ev_compL1, ev_okC, ev_wipe1, ev_wipe0, ev_rest1, ev_rest0, ev_call, ev_callN, ev_ofr, ev_ofn, ev_ofnN, ev_mut, ev_mdl, ev_mdi, ev_io, ev_addI, ev_subI, ev_negI, ev_cmpI, ev_eqI, ev_neI, ev_eqS, ev_neS, ev_intI, ev_intB, ev_absI, ev_lenL, ev_lenT, ev_ixL, ev_ixT, ev_at0, ev_at1, ev_at2, ev_i30, ev_i31, ev_i32, ev_pk1, ev_pk2, ev_pk3, ev_pk4, ev_pkw1, ev_pkw2, ev_pkv2, ev_isI, ev_isN, ev_isB, ev_inI, ev_inN, ev_inB, ev_listT, ev_listL, ev_tupT, ev_tupL, ev_fld, ev_insAt, ev_fldOwn, ev_fldG, ev_meth, ev_make, ev_callL, ev_noLI, ev_nilL, ev_nameL, ev_lendL, ev_conL, ev_augIx, ev_putAt, ev_iadd, ev_isub, ev_revT, ev_enum, ev_zip, ev_seqDL, ev_seqDT, ev_nilM, ev_vaM, ev_owM, ev_parM, ev_app, ev_par, ev_par3, ev_lam, ev_ra, ev_xfld, ev_isX, ev_isX_non, ev_hd_found, ev_hd_ret, ev_hd_expr, ev_hd_er, ev_outV, ev_outVn, ev_makeK, ev_band, ev_bxor, ev_bor, ev_aug, ev_trng1, ev_trng2, ev_revE, ev_idxF, ev_pop, R.bind_ok, R.out_ok, Option.bind_some, List.getElem?_cons_succ, List.getElem?_cons_zero, List.set_cons_succ, List.set_cons_zero, List.length_cons, List.length_nil, Nat.reduceAdd, Nat.reduceEqDiff, List.getD_cons_succ, List.getD_cons_zero, decide_true, decide_false, Bool.and_true, Bool.and_self, and_self, true_and, List.all_cons, List.all_nil, Bool.not_true, Bool.not_false, if_true, Bool.true_eq_false, Bool.false_eq_true, if_false, e]
  rfl
theorem power5 {M i : Int} {q : Sl} (h : sm62 M = true) (e : forL (setA 2) g__law_power_b1 (rngD 0 M) [.va (.int M), .va (.int 1), .un] = .nx [.va (.int M), .va (.int i), q]) : F__law_power [.int M] = .ret (.int i) (.l []) := power4 (forE (rng1E rfl h) e)
theorem shr_e (n k : Nat) : shrD (.int n) (.int k) = some (.int ((n / 2 ^ k : Nat) : Int)) := by
  rw [ev_shr (by omega), Int.toNat_natCast]
  simp
theorem digits_in (n : Nat) (h : dg n ≤ 1000) : F_digits_in [.int n] = .ret (.int (dg n)) (.l []) := by
  obtain ⟨s', e, rfl⟩ := whileL_run (u := tstF (op2F gtD (op2F shrD (nameF 0) (nameF 1)) (cF (.int 0)))) (g := g_digits_in_b1) (I := fun m s => m ≤ dg n ∧ s = [.va (.int n), .va (.int ((dg n - m : Nat) : Int))]) (J := fun s => s = [.va (.int n), .va (.int (dg n))])
    (fun m s i => by
      obtain ⟨hm, rfl⟩ := i
      refine ⟨[.va (.int n), .va (.int ((dg n - (m + 1) : Nat) : Int))], [.va (.int n), .va (.int ((dg n - m : Nat) : Int))], ?_, .inl ?_, by omega, rfl⟩
      · have h1 : 2 ^ (dg n - (m + 1)) ≤ n := dg_le (by omega)
        have h2 : 0 < n / 2 ^ (dg n - (m + 1)) := Nat.div_pos h1 (Nat.two_pow_pos _)
        have h3 : decide ((0 : Int) < ((n / 2 ^ (dg n - (m + 1)) : Nat) : Int)) = true := decide_eq_true (by omega)
        simp only [ev_name, ev_c, ev_op2, ev_op1, ev_toR1, ev_toRL1, ev_nil, ev_cons, ev_opn, ev_opnN, ev_tup, ev_lst, ev_lstN, ev_new, ev_tst, ev_notT, ev_andT, ev_orT, ev_notF, ev_andF, ev_orF, ev_ifF, ev_yes, ev_iter, ev_rng1, ev_rng2, ev_rngW, ev_noP, ev_sl, ev_part, ev_next, ev_noG, ev_seq, ev_drop, ev_ret, ev_retN, ev_if, ev_asg, ev_setA, ev_nilA, ev_consA, ev_seqT, ev_seqL, ev_setN, ev_ok, ev_ioV, ev_ioU, ev_ioW, ev_owV, ev_owU, ev_own, ev_put, ev_ixOwn, ev_lenOwn, ev_setIx, ev_comp, ev_compL0, ev_compL1, ev_okC, ev_wipe1, ev_wipe0, ev_rest1, ev_rest0, ev_call, ev_callN, ev_ofr, ev_ofn, ev_ofnN, ev_mut, ev_mdl, ev_mdi, ev_io, ev_addI, ev_subI, ev_negI, ev_cmpI, ev_eqI, ev_neI, ev_eqS, ev_neS, ev_intI, ev_intB, ev_absI, ev_lenL, ev_lenT, ev_ixL, ev_ixT, ev_at0, ev_at1, ev_at2, ev_i30, ev_i31, ev_i32, ev_pk1, ev_pk2, ev_pk3, ev_pk4, ev_pkw1, ev_pkw2, ev_pkv2, ev_isI, ev_isN, ev_isB, ev_inI, ev_inN, ev_inB, ev_listT, ev_listL, ev_tupT, ev_tupL, ev_fld, ev_insAt, ev_fldOwn, ev_fldG, ev_meth, ev_make, ev_callL, ev_noLI, ev_nilL, ev_nameL, ev_lendL, ev_conL, ev_augIx, ev_putAt, ev_iadd, ev_isub, ev_revT, ev_enum, ev_zip, ev_seqDL, ev_seqDT, ev_nilM, ev_vaM, ev_owM, ev_parM, ev_app, ev_par, ev_par3, ev_lam, ev_ra, ev_xfld, ev_isX, ev_isX_non, ev_hd_found, ev_hd_ret, ev_hd_expr, ev_hd_er, ev_outV, ev_outVn, ev_makeK, ev_band, ev_bxor, ev_bor, ev_aug, ev_trng1, ev_trng2, ev_revE, ev_idxF, ev_pop, R.bind_ok, R.out_ok, Option.bind_some, List.getElem?_cons_succ, List.getElem?_cons_zero, List.set_cons_succ, List.set_cons_zero, List.length_cons, List.length_nil, Nat.reduceAdd, Nat.reduceEqDiff, List.getD_cons_succ, List.getD_cons_zero, decide_true, decide_false, Bool.and_true, Bool.and_self, and_self, true_and, List.all_cons, List.all_nil, Bool.not_true, Bool.not_false, if_true, Bool.true_eq_false, Bool.false_eq_true, if_false, shr_e, h3]
      · have h1 : ((dg n - (m + 1) : Nat) : Int) + 1 = ((dg n - m : Nat) : Int) := by omega
        simp only [g_digits_in_b1, ev_name, ev_c, ev_op2, ev_op1, ev_toR1, ev_toRL1, ev_nil, ev_cons, ev_opn, ev_opnN, ev_tup, ev_lst, ev_lstN, ev_new, ev_tst, ev_notT, ev_andT, ev_orT, ev_notF, ev_andF, ev_orF, ev_ifF, ev_yes, ev_iter, ev_rng1, ev_rng2, ev_rngW, ev_noP, ev_sl, ev_part, ev_next, ev_noG, ev_seq, ev_drop, ev_ret, ev_retN, ev_if, ev_asg, ev_setA, ev_nilA, ev_consA, ev_seqT, ev_seqL, ev_setN, ev_ok, ev_ioV, ev_ioU, ev_ioW, ev_owV, ev_owU, ev_own, ev_put, ev_ixOwn, ev_lenOwn, ev_setIx, ev_comp, ev_compL0, ev_compL1, ev_okC, ev_wipe1, ev_wipe0, ev_rest1, ev_rest0, ev_call, ev_callN, ev_ofr, ev_ofn, ev_ofnN, ev_mut, ev_mdl, ev_mdi, ev_io, ev_addI, ev_subI, ev_negI, ev_cmpI, ev_eqI, ev_neI, ev_eqS, ev_neS, ev_intI, ev_intB, ev_absI, ev_lenL, ev_lenT, ev_ixL, ev_ixT, ev_at0, ev_at1, ev_at2, ev_i30, ev_i31, ev_i32, ev_pk1, ev_pk2, ev_pk3, ev_pk4, ev_pkw1, ev_pkw2, ev_pkv2, ev_isI, ev_isN, ev_isB, ev_inI, ev_inN, ev_inB, ev_listT, ev_listL, ev_tupT, ev_tupL, ev_fld, ev_insAt, ev_fldOwn, ev_fldG, ev_meth, ev_make, ev_callL, ev_noLI, ev_nilL, ev_nameL, ev_lendL, ev_conL, ev_augIx, ev_putAt, ev_iadd, ev_isub, ev_revT, ev_enum, ev_zip, ev_seqDL, ev_seqDT, ev_nilM, ev_vaM, ev_owM, ev_parM, ev_app, ev_par, ev_par3, ev_lam, ev_ra, ev_xfld, ev_isX, ev_isX_non, ev_hd_found, ev_hd_ret, ev_hd_expr, ev_hd_er, ev_outV, ev_outVn, ev_makeK, ev_band, ev_bxor, ev_bor, ev_aug, ev_trng1, ev_trng2, ev_revE, ev_idxF, ev_pop, R.bind_ok, R.out_ok, Option.bind_some, List.getElem?_cons_succ, List.getElem?_cons_zero, List.set_cons_succ, List.set_cons_zero, List.length_cons, List.length_nil, Nat.reduceAdd, Nat.reduceEqDiff, List.getD_cons_succ, List.getD_cons_zero, decide_true, decide_false, Bool.and_true, Bool.and_self, and_self, true_and, List.all_cons, List.all_nil, Bool.not_true, Bool.not_false, if_true, Bool.true_eq_false, Bool.false_eq_true, if_false, h1])
    (fun s i => by
      obtain ⟨_, rfl⟩ := i
      refine ⟨_, ?_, rfl⟩
      have h2 : n / 2 ^ dg n = 0 := Nat.div_eq_of_lt (dg_lt n)
      simp only [ev_name, ev_c, ev_op2, ev_op1, ev_toR1, ev_toRL1, ev_nil, ev_cons, ev_opn, ev_opnN, ev_tup, ev_lst, ev_lstN, ev_new, ev_tst, ev_notT, ev_andT, ev_orT, ev_notF, ev_andF, ev_orF, ev_ifF, ev_yes, ev_iter, ev_rng1, ev_rng2, ev_rngW, ev_noP, ev_sl, ev_part, ev_next, ev_noG, ev_seq, ev_drop, ev_ret, ev_retN, ev_if, ev_asg, ev_setA, ev_nilA, ev_consA, ev_seqT, ev_seqL, ev_setN, ev_ok, ev_ioV, ev_ioU, ev_ioW, ev_owV, ev_owU, ev_own, ev_put, ev_ixOwn, ev_lenOwn, ev_setIx, ev_comp, ev_compL0, ev_compL1, ev_okC, ev_wipe1, ev_wipe0, ev_rest1, ev_rest0, ev_call, ev_callN, ev_ofr, ev_ofn, ev_ofnN, ev_mut, ev_mdl, ev_mdi, ev_io, ev_addI, ev_subI, ev_negI, ev_cmpI, ev_eqI, ev_neI, ev_eqS, ev_neS, ev_intI, ev_intB, ev_absI, ev_lenL, ev_lenT, ev_ixL, ev_ixT, ev_at0, ev_at1, ev_at2, ev_i30, ev_i31, ev_i32, ev_pk1, ev_pk2, ev_pk3, ev_pk4, ev_pkw1, ev_pkw2, ev_pkv2, ev_isI, ev_isN, ev_isB, ev_inI, ev_inN, ev_inB, ev_listT, ev_listL, ev_tupT, ev_tupL, ev_fld, ev_insAt, ev_fldOwn, ev_fldG, ev_meth, ev_make, ev_callL, ev_noLI, ev_nilL, ev_nameL, ev_lendL, ev_conL, ev_augIx, ev_putAt, ev_iadd, ev_isub, ev_revT, ev_enum, ev_zip, ev_seqDL, ev_seqDT, ev_nilM, ev_vaM, ev_owM, ev_parM, ev_app, ev_par, ev_par3, ev_lam, ev_ra, ev_xfld, ev_isX, ev_isX_non, ev_hd_found, ev_hd_ret, ev_hd_expr, ev_hd_er, ev_outV, ev_outVn, ev_makeK, ev_band, ev_bxor, ev_bor, ev_aug, ev_trng1, ev_trng2, ev_revE, ev_idxF, ev_pop, R.bind_ok, R.out_ok, Option.bind_some, List.getElem?_cons_succ, List.getElem?_cons_zero, List.set_cons_succ, List.set_cons_zero, List.length_cons, List.length_nil, Nat.reduceAdd, Nat.reduceEqDiff, List.getD_cons_succ, List.getD_cons_zero, decide_true, decide_false, Bool.and_true, Bool.and_self, and_self, true_and, List.all_cons, List.all_nil, Bool.not_true, Bool.not_false, if_true, Bool.true_eq_false, Bool.false_eq_true, if_false, Nat.sub_zero, shr_e, h2]
      rfl)
    (dg n) 1000000 [.va (.int n), .va (.int 0)] (by omega) ⟨Nat.le_refl _, by rw [Nat.sub_self]; rfl⟩
  show outF false (g_digits_in [.va (.int n), .un]) = _
  simp only [g_digits_in, ev_name, ev_c, ev_op2, ev_op1, ev_toR1, ev_toRL1, ev_nil, ev_cons, ev_opn, ev_opnN, ev_tup, ev_lst, ev_lstN, ev_new, ev_tst, ev_notT, ev_andT, ev_orT, ev_notF, ev_andF, ev_orF, ev_ifF, ev_yes, ev_iter, ev_rng1, ev_rng2, ev_rngW, ev_noP, ev_sl, ev_part, ev_next, ev_noG, ev_seq, ev_drop, ev_ret, ev_retN, ev_if, ev_asg, ev_setA, ev_nilA, ev_consA, ev_seqT, ev_seqL, ev_setN, ev_ok, ev_ioV, ev_ioU, ev_ioW, ev_owV, ev_owU, ev_own, ev_put, ev_ixOwn, ev_lenOwn, ev_setIx, ev_comp, ev_compL0, ev_compL1, ev_okC, ev_wipe1, ev_wipe0, ev_rest1, ev_rest0, ev_call, ev_callN, ev_ofr, ev_ofn, ev_ofnN, ev_mut, ev_mdl, ev_mdi, ev_io, ev_addI, ev_subI, ev_negI, ev_cmpI, ev_eqI, ev_neI, ev_eqS, ev_neS, ev_intI, ev_intB, ev_absI, ev_lenL, ev_lenT, ev_ixL, ev_ixT, ev_at0, ev_at1, ev_at2, ev_i30, ev_i31, ev_i32, ev_pk1, ev_pk2, ev_pk3, ev_pk4, ev_pkw1, ev_pkw2, ev_pkv2, ev_isI, ev_isN, ev_isB, ev_inI, ev_inN, ev_inB, ev_listT, ev_listL, ev_tupT, ev_tupL, ev_fld, ev_insAt, ev_fldOwn, ev_fldG, ev_meth, ev_make, ev_callL, ev_noLI, ev_nilL, ev_nameL, ev_lendL, ev_conL, ev_augIx, ev_putAt, ev_iadd, ev_isub, ev_revT, ev_enum, ev_zip, ev_seqDL, ev_seqDT, ev_nilM, ev_vaM, ev_owM, ev_parM, ev_app, ev_par, ev_par3, ev_lam, ev_ra, ev_xfld, ev_isX, ev_isX_non, ev_hd_found, ev_hd_ret, ev_hd_expr, ev_hd_er, ev_outV, ev_outVn, ev_makeK, ev_band, ev_bxor, ev_bor, ev_aug, ev_trng1, ev_trng2, ev_revE, ev_idxF, ev_pop, R.bind_ok, R.out_ok, Option.bind_some, List.getElem?_cons_succ, List.getElem?_cons_zero, List.set_cons_succ, List.set_cons_zero, List.length_cons, List.length_nil, Nat.reduceAdd, Nat.reduceEqDiff, List.getD_cons_succ, List.getD_cons_zero, decide_true, decide_false, Bool.and_true, Bool.and_self, and_self, true_and, List.all_cons, List.all_nil, Bool.not_true, Bool.not_false, if_true, Bool.true_eq_false, Bool.false_eq_true, if_false, e]
  rfl
end Fx

set_option Elab.async false
set_option linter.all false
set_option maxRecDepth 100000
set_option exponentiation.threshold 3000
namespace Fx
variable [Tbl]
open PySem L2 PyProof.Rows
/-! ### sizes -/
theorem powerE (m : Int) (h0 : 0 ≤ m) (h : m ≤ 130) : ∃ i, F__law_power [.int m] = .ret (.int i) (.l []) ∧ i = 2 ^ m.toNat := by
  obtain ⟨k, rfl⟩ : ∃ k : Nat, m = (k : Int) := ⟨m.toNat, by omega⟩
  obtain ⟨q, i, s', e, rfl, ei, _⟩ := power1 k
  refine ⟨i, power5 (sm_of (by omega) (by omega)) e, ?_⟩
  rw [ei, Int.toNat_natCast]
  exact_mod_cast rfl
abbrev Nm (n : Int) : Prop := 0 ≤ n ∧ n < 2 ^ 131
theorem dg_nm {n : Int} (h0 : 0 ≤ n) (h : n < 2 ^ 132) : dg n.toNat ≤ 132 := dg_small (by omega)
theorem dg_pos {n : Nat} (h : 0 < n) : 0 < dg n := by
  unfold dg
  rw [if_neg (by omega)]
  exact Nat.succ_pos _
theorem digitsE {n : Int} (h0 : 0 ≤ n) (h : n < 2 ^ 132) : ∃ d : Int, F__law_digits [.int n] = .ret (.int d) (.l []) ∧ d = (dg n.toNat : Int) := by
  obtain ⟨k, rfl⟩ : ∃ k : Nat, n = (k : Int) := ⟨n.toNat, by omega⟩
  have := dg_nm h0 h
  rw [Int.toNat_natCast] at this ⊢
  exact ⟨_, law_digits k (by omega), rfl⟩
theorem digitsP {n : Int} (h0 : 0 ≤ n) (h : n < 2 ^ 132) : ∃ d : Int, F_digits_in [.int n] = .ret (.int d) (.l []) ∧ d = (dg n.toNat : Int) := by
  obtain ⟨k, rfl⟩ : ∃ k : Nat, n = (k : Int) := ⟨n.toNat, by omega⟩
  have := dg_nm h0 h
  rw [Int.toNat_natCast] at this ⊢
  exact ⟨_, digits_in k (by omega), rfl⟩
theorem rep_l {xs : List D} {k : Int} (h0 : 0 ≤ k) (h : k ≤ 1000) (hx : xs.length = 1) : ∃ ys, mulD (.lst xs) (.int k) = some (.lst ys) ∧ (ys.length : Int) = k := by
  refine ⟨(List.replicate k.toNat xs).flatten, ?_, ?_⟩
  · show (if _ then _ else _) = _
    rw [if_pos ⟨by omega, by omega, by rw [hx, sizeLine_eq]; omega⟩]
  · rw [List.length_flatten, List.map_replicate, List.sum_replicate_nat, hx]
    omega
theorem rep_v {v : D} {k : Int} (h0 : 0 ≤ k) (h : k ≤ 1000) : mulD (.lst [v]) (.int k) = some (.lst (List.replicate k.toNat v)) := by
  show (if _ then _ else _) = _
  rw [if_pos ⟨by omega, by omega, by show 1 * _ ≤ _; rw [sizeLine_eq]; omega⟩]
  congr 2
  induction k.toNat with
  | zero => rfl
  | succ n ih =>
    rw [List.replicate_succ, List.replicate_succ, List.flatten_cons, ih]
    rfl
theorem add_l {a b : List D} (h : a.length + b.length ≤ 10000) : addD (.lst a) (.lst b) = some (.lst (a ++ b)) := if_pos (by rw [sizeLine_eq]; omega)
def gz (n : Int) : Int := 2 * (dg (n + 1).toNat : Int) - 1
def sz (n p : Int) : Int := p + (if n / 2 ^ p.toNat < 16 then n / 2 ^ p.toNat + 1 else 16 + gz (n / 2 ^ p.toNat - 16))
theorem gz_bd {n : Int} (h0 : 0 ≤ n) (h : n < 2 ^ 131) : 0 < gz n ∧ gz n ≤ 300 := by
  have h1 := dg_nm (n := n + 1) (by omega) (by omega)
  have h2 := dg_pos (n := (n + 1).toNat) (by omega)
  unfold gz
  omega
theorem law_gamma {n : Int} (h0 : 0 ≤ n) (h : n < 2 ^ 131) : ∃ L, F__law_gamma [.int n] = .ret (.lst L) (.l []) ∧ (L.length : Int) = gz n := by
  obtain ⟨d, e1, ed⟩ := digitsE (n := n + 1) (by omega) (by omega)
  have h1 := dg_nm (n := n + 1) (by omega) (by omega)
  have h2 := dg_pos (n := (n + 1).toNat) (by omega)
  obtain ⟨ys, e2, hy⟩ := rep_l (xs := [.int 0]) (k := d - 1) (by omega) (by omega) rfl
  have e3 := low (n + 1) d (by omega) (by omega)
  have e4 : addD (.lst ys) (.lst ((bitsI (n + 1) d.toNat).map D.int)) = some (.lst (ys ++ (bitsI (n + 1) d.toNat).map D.int)) := add_l (by rw [List.length_map, bitsI_len]; omega)
  have s1 : (1 ≤ sizeLine) = True := szA (by decide)
  refine ⟨ys ++ (bitsI (n + 1) d.toNat).map D.int, ?_, ?_⟩
  · show outF false (g__law_gamma [.va (.int n), .un]) = _
    generalize hA1 : F__law_digits = A1 at e1
    generalize hA2 : F__law_low = A2 at e3
    unfold g__law_gamma
    rw [hA1, hA2]
    simp only [ev_name, ev_c, ev_op2, ev_op1, ev_toR1, ev_toRL1, ev_nil, ev_cons, ev_opn, ev_opnN, ev_tup, ev_lst, ev_lstN, ev_new, ev_tst, ev_notT, ev_andT, ev_orT, ev_notF, ev_andF, ev_orF, ev_ifF, ev_yes, ev_iter, ev_rng1, ev_rng2, ev_rngW, ev_noP, ev_sl, ev_part, ev_next, ev_noG, ev_seq, ev_drop, ev_ret, ev_retN, ev_if, ev_asg, ev_setA, ev_nilA, ev_consA, ev_seqT, ev_seqL, ev_setN, ev_ok, ev_ioV, ev_ioU, ev_ioW, ev_owV, ev_owU, ev_own, ev_put, ev_ixOwn, ev_lenOwn, ev_setIx, ev_okC, ev_wipe1, ev_wipe0, ev_rest1, ev_rest0, ev_call, ev_callN, ev_ofr, ev_ofn, ev_ofnN, ev_mut, ev_mdl, ev_mdi, ev_io, ev_addI, ev_subI, ev_negI, ev_cmpI, ev_eqI, ev_neI, ev_eqS, ev_neS, ev_intI, ev_intB, ev_absI, ev_lenL, ev_lenT, ev_ixL, ev_ixT, ev_at0, ev_at1, ev_at2, ev_i30, ev_i31, ev_i32, ev_pk1, ev_pk2, ev_pk3, ev_pk4, ev_pkw1, ev_pkw2, ev_pkv2, ev_isI, ev_isN, ev_isB, ev_inI, ev_inN, ev_inB, ev_listT, ev_listL, ev_tupT, ev_tupL, ev_fld, ev_insAt, ev_fldOwn, ev_fldG, ev_meth, ev_make, ev_callL, ev_noLI, ev_nilL, ev_nameL, ev_lendL, ev_conL, ev_augIx, ev_putAt, ev_iadd, ev_isub, ev_revT, ev_enum, ev_zip, ev_seqDL, ev_seqDT, ev_nilM, ev_vaM, ev_owM, ev_parM, ev_app, ev_par, ev_par3, ev_lam, ev_ra, ev_xfld, ev_isX, ev_isX_non, ev_hd_found, ev_hd_ret, ev_hd_expr, ev_hd_er, ev_outV, ev_outVn, ev_makeK, ev_band, ev_bxor, ev_bor, ev_aug, ev_trng1, ev_trng2, ev_revE, ev_idxF, ev_pop, R.bind_ok, R.out_ok, Option.bind_some, List.getElem?_cons_succ, List.getElem?_cons_zero, List.set_cons_succ, List.set_cons_zero, List.length_cons, List.length_nil, Nat.reduceAdd, Nat.reduceEqDiff, List.getD_cons_succ, List.getD_cons_zero, decide_true, decide_false, Bool.and_true, Bool.and_self, and_self, true_and, List.all_cons, List.all_nil, Bool.not_true, Bool.not_false, if_true, Bool.true_eq_false, Bool.false_eq_true, if_false, e1, s1, e2, e3, e4]
    rfl
  · rw [List.length_append, List.length_map, bitsI_len]
    unfold gz
    omega
theorem gamma_bits {n : Int} (h0 : 0 ≤ n) (h : n < 2 ^ 131) : ∃ L, F_gamma_bits [.int n] = .ret (.lst L) (.l []) ∧ (L.length : Int) = gz n := by
  obtain ⟨d, e1, ed⟩ := digitsP (n := n + 1) (by omega) (by omega)
  have h1 := dg_nm (n := n + 1) (by omega) (by omega)
  have h2 := dg_pos (n := (n + 1).toNat) (by omega)
  obtain ⟨ys, e2, hy⟩ := rep_l (xs := [.int 0]) (k := d - 1) (by omega) (by omega) rfl
  have e3 := lowest (n + 1) d (by omega) (by omega)
  have e4 : addD (.lst ys) (.lst ((bitsI (n + 1) d.toNat).map D.int)) = some (.lst (ys ++ (bitsI (n + 1) d.toNat).map D.int)) := add_l (by rw [List.length_map, bitsI_len]; omega)
  have s1 : (1 ≤ sizeLine) = True := szA (by decide)
  refine ⟨ys ++ (bitsI (n + 1) d.toNat).map D.int, ?_, ?_⟩
  · show outF false (g_gamma_bits [.va (.int n), .un]) = _
    generalize hA1 : F_digits_in = A1 at e1
    generalize hA2 : F_lowest_bits = A2 at e3
    unfold g_gamma_bits
    rw [hA1, hA2]
    simp only [ev_name, ev_c, ev_op2, ev_op1, ev_toR1, ev_toRL1, ev_nil, ev_cons, ev_opn, ev_opnN, ev_tup, ev_lst, ev_lstN, ev_new, ev_tst, ev_notT, ev_andT, ev_orT, ev_notF, ev_andF, ev_orF, ev_ifF, ev_yes, ev_iter, ev_rng1, ev_rng2, ev_rngW, ev_noP, ev_sl, ev_part, ev_next, ev_noG, ev_seq, ev_drop, ev_ret, ev_retN, ev_if, ev_asg, ev_setA, ev_nilA, ev_consA, ev_seqT, ev_seqL, ev_setN, ev_ok, ev_ioV, ev_ioU, ev_ioW, ev_owV, ev_owU, ev_own, ev_put, ev_ixOwn, ev_lenOwn, ev_setIx, ev_okC, ev_wipe1, ev_wipe0, ev_rest1, ev_rest0, ev_call, ev_callN, ev_ofr, ev_ofn, ev_ofnN, ev_mut, ev_mdl, ev_mdi, ev_io, ev_addI, ev_subI, ev_negI, ev_cmpI, ev_eqI, ev_neI, ev_eqS, ev_neS, ev_intI, ev_intB, ev_absI, ev_lenL, ev_lenT, ev_ixL, ev_ixT, ev_at0, ev_at1, ev_at2, ev_i30, ev_i31, ev_i32, ev_pk1, ev_pk2, ev_pk3, ev_pk4, ev_pkw1, ev_pkw2, ev_pkv2, ev_isI, ev_isN, ev_isB, ev_inI, ev_inN, ev_inB, ev_listT, ev_listL, ev_tupT, ev_tupL, ev_fld, ev_insAt, ev_fldOwn, ev_fldG, ev_meth, ev_make, ev_callL, ev_noLI, ev_nilL, ev_nameL, ev_lendL, ev_conL, ev_augIx, ev_putAt, ev_iadd, ev_isub, ev_revT, ev_enum, ev_zip, ev_seqDL, ev_seqDT, ev_nilM, ev_vaM, ev_owM, ev_parM, ev_app, ev_par, ev_par3, ev_lam, ev_ra, ev_xfld, ev_isX, ev_isX_non, ev_hd_found, ev_hd_ret, ev_hd_expr, ev_hd_er, ev_outV, ev_outVn, ev_makeK, ev_band, ev_bxor, ev_bor, ev_aug, ev_trng1, ev_trng2, ev_revE, ev_idxF, ev_pop, R.bind_ok, R.out_ok, Option.bind_some, List.getElem?_cons_succ, List.getElem?_cons_zero, List.set_cons_succ, List.set_cons_zero, List.length_cons, List.length_nil, Nat.reduceAdd, Nat.reduceEqDiff, List.getD_cons_succ, List.getD_cons_zero, decide_true, decide_false, Bool.and_true, Bool.and_self, and_self, true_and, List.all_cons, List.all_nil, Bool.not_true, Bool.not_false, if_true, Bool.true_eq_false, Bool.false_eq_true, if_false, e1, s1, e2, e3, e4]
    rfl
  · rw [List.length_append, List.length_map, bitsI_len]
    unfold gz
    omega
theorem gamma_size {n : Int} (h0 : 0 ≤ n) (h : n < 2 ^ 131) : F_gamma_size [.int n] = .ret (.int (gz n)) (.l []) := by
  obtain ⟨d, e1, ed⟩ := digitsP (n := n + 1) (by omega) (by omega)
  have e : gz n = 2 * d - 1 := by rw [ed]; rfl
  rw [e]
  show outF false (g_gamma_size [.va (.int n)]) = _
  simp only [g_gamma_size, ev_name, ev_c, ev_op2, ev_op1, ev_toR1, ev_toRL1, ev_nil, ev_cons, ev_opn, ev_opnN, ev_tup, ev_lst, ev_lstN, ev_new, ev_tst, ev_notT, ev_andT, ev_orT, ev_notF, ev_andF, ev_orF, ev_ifF, ev_yes, ev_iter, ev_rng1, ev_rng2, ev_rngW, ev_noP, ev_sl, ev_part, ev_next, ev_noG, ev_seq, ev_drop, ev_ret, ev_retN, ev_if, ev_asg, ev_setA, ev_nilA, ev_consA, ev_seqT, ev_seqL, ev_setN, ev_ok, ev_ioV, ev_ioU, ev_ioW, ev_owV, ev_owU, ev_own, ev_put, ev_ixOwn, ev_lenOwn, ev_setIx, ev_okC, ev_wipe1, ev_wipe0, ev_rest1, ev_rest0, ev_call, ev_callN, ev_ofr, ev_ofn, ev_ofnN, ev_mut, ev_mdl, ev_mdi, ev_io, ev_addI, ev_subI, ev_negI, ev_cmpI, ev_eqI, ev_neI, ev_eqS, ev_neS, ev_intI, ev_intB, ev_absI, ev_lenL, ev_lenT, ev_ixL, ev_ixT, ev_at0, ev_at1, ev_at2, ev_i30, ev_i31, ev_i32, ev_pk1, ev_pk2, ev_pk3, ev_pk4, ev_pkw1, ev_pkw2, ev_pkv2, ev_isI, ev_isN, ev_isB, ev_inI, ev_inN, ev_inB, ev_listT, ev_listL, ev_tupT, ev_tupL, ev_fld, ev_insAt, ev_fldOwn, ev_fldG, ev_meth, ev_make, ev_callL, ev_noLI, ev_nilL, ev_nameL, ev_lendL, ev_conL, ev_augIx, ev_putAt, ev_iadd, ev_isub, ev_revT, ev_enum, ev_zip, ev_seqDL, ev_seqDT, ev_nilM, ev_vaM, ev_owM, ev_parM, ev_app, ev_par, ev_par3, ev_lam, ev_ra, ev_xfld, ev_isX, ev_isX_non, ev_hd_found, ev_hd_ret, ev_hd_expr, ev_hd_er, ev_outV, ev_outVn, ev_makeK, ev_band, ev_bxor, ev_bor, ev_aug, ev_trng1, ev_trng2, ev_revE, ev_idxF, ev_pop, R.bind_ok, R.out_ok, Option.bind_some, List.getElem?_cons_succ, List.getElem?_cons_zero, List.set_cons_succ, List.set_cons_zero, List.length_cons, List.length_nil, Nat.reduceAdd, Nat.reduceEqDiff, List.getD_cons_succ, List.getD_cons_zero, decide_true, decide_false, Bool.and_true, Bool.and_self, and_self, true_and, List.all_cons, List.all_nil, Bool.not_true, Bool.not_false, if_true, Bool.true_eq_false, Bool.false_eq_true, if_false, e1, m2]
  rfl
theorem hi_bd {n : Int} (h : Nm n) {p : Int} : 0 ≤ n / 2 ^ p.toNat ∧ n / 2 ^ p.toNat ≤ n := by
  have hp : (0 : Int) < 2 ^ p.toNat := Int.pow_pos (by decide)
  exact ⟨Int.ediv_nonneg h.1 (by omega), Int.ediv_le_self _ h.1⟩
theorem low_log {p : Int} (h0 : 0 ≤ p) (h : p ≤ 130) : ((2 : Int) ^ p.toNat).natAbs.log2 < 9000 := by
  refine (Nat.log2_lt (by have : (0 : Int) < 2 ^ p.toNat := Int.pow_pos (by decide); omega)).mpr ?_
  have h1 : ((2 : Int) ^ p.toNat).natAbs = 2 ^ p.toNat := by
    rw [Int.natAbs_pow]
    rfl
  rw [h1]
  exact Nat.pow_lt_pow_right (by decide) (by omega)
section
variable {first : F D}
theorem law_rice {n p : Int} (h : Nm n) (p0 : 0 ≤ p) (p1 : p ≤ 20) : ∃ L, F__law_rice [.int n, .int p] = .ret (.lst L) (.l []) ∧ (L.length : Int) = sz n p := by
  obtain ⟨i, e1, ei⟩ := powerE p p0 (by omega)
  obtain ⟨b0, b1⟩ := hi_bd h (p := p)
  have e2 : fdivD (.int n) (.int i) = some (.int (n / 2 ^ p.toNat)) := by
    rw [ei]
    exact ev_fdivI (Int.pow_pos (by decide)) (low_log p0 (by omega))
  have e3 := low n p p0 (by omega)
  obtain ⟨ho, hho⟩ : ∃ ho, n / 2 ^ p.toNat = ho := ⟨_, rfl⟩
  rw [hho] at b0 b1 e2
  have s1 : (1 ≤ sizeLine) = True := szA (by decide)
  have hl : ((bitsI n p.toNat).map D.int).length = p.toNat := by rw [List.length_map, bitsI_len]
  unfold Nm at h
  cases hc : decide (ho < 16) with
  | true =>
    have hc1 := of_decide_eq_true hc
    obtain ⟨ys, e4, hy⟩ := rep_l (xs := [.int 1]) (k := ho) b0 (by omega) rfl
    have e5 : addD (.lst ys) (.lst [.int 0]) = some (.lst (ys ++ [.int 0])) := add_l (by show _ + 1 ≤ _; omega)
    have e6 : addD (.lst (ys ++ [.int 0])) (.lst ((bitsI n p.toNat).map D.int)) = some (.lst (ys ++ [.int 0] ++ (bitsI n p.toNat).map D.int)) := add_l (by rw [hl, List.length_append]; show _ + 1 + _ ≤ _; omega)
    refine ⟨ys ++ [.int 0] ++ (bitsI n p.toNat).map D.int, ?_, ?_⟩
    rotate_left
    · rw [List.length_append, List.length_append, hl]
      unfold sz
      rw [hho, if_pos hc1]
      show ((ys.length + 1 + p.toNat : Nat) : Int) = _
      omega
    · show outF false (g__law_rice [.va (.int n), .va (.int p), .un, .un]) = _
      generalize hA1 : F__law_power = A1 at e1
      generalize hA2 : F__law_low = A2 at e3
      unfold g__law_rice
      rw [hA1, hA2]
      simp only [ev_name, ev_c, ev_op2, ev_op1, ev_toR1, ev_toRL1, ev_nil, ev_cons, ev_opn, ev_opnN, ev_tup, ev_lst, ev_lstN, ev_new, ev_tst, ev_notT, ev_andT, ev_orT, ev_notF, ev_andF, ev_orF, ev_ifF, ev_yes, ev_iter, ev_rng1, ev_rng2, ev_rngW, ev_noP, ev_sl, ev_part, ev_next, ev_noG, ev_seq, ev_drop, ev_ret, ev_retN, ev_if, ev_asg, ev_setA, ev_nilA, ev_consA, ev_seqT, ev_seqL, ev_setN, ev_ok, ev_ioV, ev_ioU, ev_ioW, ev_owV, ev_owU, ev_own, ev_put, ev_ixOwn, ev_lenOwn, ev_setIx, ev_okC, ev_wipe1, ev_wipe0, ev_rest1, ev_rest0, ev_call, ev_callN, ev_ofr, ev_ofn, ev_ofnN, ev_mut, ev_mdl, ev_mdi, ev_io, ev_addI, ev_subI, ev_negI, ev_cmpI, ev_eqI, ev_neI, ev_eqS, ev_neS, ev_intI, ev_intB, ev_absI, ev_lenL, ev_lenT, ev_ixL, ev_ixT, ev_at0, ev_at1, ev_at2, ev_i30, ev_i31, ev_i32, ev_pk1, ev_pk2, ev_pk3, ev_pk4, ev_pkw1, ev_pkw2, ev_pkv2, ev_isI, ev_isN, ev_isB, ev_inI, ev_inN, ev_inB, ev_listT, ev_listL, ev_tupT, ev_tupL, ev_fld, ev_insAt, ev_fldOwn, ev_fldG, ev_meth, ev_make, ev_callL, ev_noLI, ev_nilL, ev_nameL, ev_lendL, ev_conL, ev_augIx, ev_putAt, ev_iadd, ev_isub, ev_revT, ev_enum, ev_zip, ev_seqDL, ev_seqDT, ev_nilM, ev_vaM, ev_owM, ev_parM, ev_app, ev_par, ev_par3, ev_lam, ev_ra, ev_xfld, ev_isX, ev_isX_non, ev_hd_found, ev_hd_ret, ev_hd_expr, ev_hd_er, ev_outV, ev_outVn, ev_makeK, ev_band, ev_bxor, ev_bor, ev_aug, ev_trng1, ev_trng2, ev_revE, ev_idxF, ev_pop, R.bind_ok, R.out_ok, Option.bind_some, List.getElem?_cons_succ, List.getElem?_cons_zero, List.set_cons_succ, List.set_cons_zero, List.length_cons, List.length_nil, Nat.reduceAdd, Nat.reduceEqDiff, List.getD_cons_succ, List.getD_cons_zero, decide_true, decide_false, Bool.and_true, Bool.and_self, and_self, true_and, List.all_cons, List.all_nil, Bool.not_true, Bool.not_false, if_true, Bool.true_eq_false, Bool.false_eq_true, if_false, e1, e2, hc, s1, e3, e4, e5, e6]
      rfl
  | false =>
    have hc1 := of_decide_eq_false hc
    obtain ⟨g, e7, hg⟩ := law_gamma (n := ho - 16) (by omega) (by omega)
    have hgb := gz_bd (n := ho - 16) (by omega) (by omega)
    obtain ⟨ys, e4, hy⟩ := rep_l (xs := [.int 1]) (k := 16) (by decide) (by decide) rfl
    have e5 : addD (.lst ys) (.lst g) = some (.lst (ys ++ g)) := add_l (by omega)
    have e6 : addD (.lst (ys ++ g)) (.lst ((bitsI n p.toNat).map D.int)) = some (.lst (ys ++ g ++ (bitsI n p.toNat).map D.int)) := add_l (by rw [hl, List.length_append]; omega)
    refine ⟨ys ++ g ++ (bitsI n p.toNat).map D.int, ?_, ?_⟩
    rotate_left
    · rw [List.length_append, List.length_append, hl]
      unfold sz
      rw [hho, if_neg hc1]
      omega
    · show outF false (g__law_rice [.va (.int n), .va (.int p), .un, .un]) = _
      generalize hA1 : F__law_power = A1 at e1
      generalize hA2 : F__law_low = A2 at e3
      generalize hA3 : F__law_gamma = A3 at e7
      unfold g__law_rice
      rw [hA1, hA2, hA3]
      simp only [ev_name, ev_c, ev_op2, ev_op1, ev_toR1, ev_toRL1, ev_nil, ev_cons, ev_opn, ev_opnN, ev_tup, ev_lst, ev_lstN, ev_new, ev_tst, ev_notT, ev_andT, ev_orT, ev_notF, ev_andF, ev_orF, ev_ifF, ev_yes, ev_iter, ev_rng1, ev_rng2, ev_rngW, ev_noP, ev_sl, ev_part, ev_next, ev_noG, ev_seq, ev_drop, ev_ret, ev_retN, ev_if, ev_asg, ev_setA, ev_nilA, ev_consA, ev_seqT, ev_seqL, ev_setN, ev_ok, ev_ioV, ev_ioU, ev_ioW, ev_owV, ev_owU, ev_own, ev_put, ev_ixOwn, ev_lenOwn, ev_setIx, ev_okC, ev_wipe1, ev_wipe0, ev_rest1, ev_rest0, ev_call, ev_callN, ev_ofr, ev_ofn, ev_ofnN, ev_mut, ev_mdl, ev_mdi, ev_io, ev_addI, ev_subI, ev_negI, ev_cmpI, ev_eqI, ev_neI, ev_eqS, ev_neS, ev_intI, ev_intB, ev_absI, ev_lenL, ev_lenT, ev_ixL, ev_ixT, ev_at0, ev_at1, ev_at2, ev_i30, ev_i31, ev_i32, ev_pk1, ev_pk2, ev_pk3, ev_pk4, ev_pkw1, ev_pkw2, ev_pkv2, ev_isI, ev_isN, ev_isB, ev_inI, ev_inN, ev_inB, ev_listT, ev_listL, ev_tupT, ev_tupL, ev_fld, ev_insAt, ev_fldOwn, ev_fldG, ev_meth, ev_make, ev_callL, ev_noLI, ev_nilL, ev_nameL, ev_lendL, ev_conL, ev_augIx, ev_putAt, ev_iadd, ev_isub, ev_revT, ev_enum, ev_zip, ev_seqDL, ev_seqDT, ev_nilM, ev_vaM, ev_owM, ev_parM, ev_app, ev_par, ev_par3, ev_lam, ev_ra, ev_xfld, ev_isX, ev_isX_non, ev_hd_found, ev_hd_ret, ev_hd_expr, ev_hd_er, ev_outV, ev_outVn, ev_makeK, ev_band, ev_bxor, ev_bor, ev_aug, ev_trng1, ev_trng2, ev_revE, ev_idxF, ev_pop, R.bind_ok, R.out_ok, Option.bind_some, List.getElem?_cons_succ, List.getElem?_cons_zero, List.set_cons_succ, List.set_cons_zero, List.length_cons, List.length_nil, Nat.reduceAdd, Nat.reduceEqDiff, List.getD_cons_succ, List.getD_cons_zero, decide_true, decide_false, Bool.and_true, Bool.and_self, and_self, true_and, List.all_cons, List.all_nil, Bool.not_true, Bool.not_false, if_true, Bool.true_eq_false, Bool.false_eq_true, if_false, e1, e2, hc, s1, e3, e4, e5, e6, e7]
      rfl
theorem rice_bits {n p : Int} (h : Nm n) (p0 : 0 ≤ p) (p1 : p ≤ 20) : ∃ L, F_rice_bits [.int n, .int p] = .ret (.lst L) (.l []) ∧ (L.length : Int) = sz n p := by
  obtain ⟨b0, b1⟩ := hi_bd h (p := p)
  have e2 : shrD (.int n) (.int p) = some (.int (n / 2 ^ p.toNat)) := ev_shr p0
  have e3 := lowest n p p0 (by omega)
  obtain ⟨ho, hho⟩ : ∃ ho, n / 2 ^ p.toNat = ho := ⟨_, rfl⟩
  rw [hho] at b0 b1 e2
  have s1 : (1 ≤ sizeLine) = True := szA (by decide)
  have hl : ((bitsI n p.toNat).map D.int).length = p.toNat := by rw [List.length_map, bitsI_len]
  unfold Nm at h
  cases hc : decide (ho < 16) with
  | true =>
    have hc1 := of_decide_eq_true hc
    obtain ⟨ys, e4, hy⟩ := rep_l (xs := [.int 1]) (k := ho) b0 (by omega) rfl
    have e5 : addD (.lst ys) (.lst [.int 0]) = some (.lst (ys ++ [.int 0])) := add_l (by show _ + 1 ≤ _; omega)
    have e6 : addD (.lst (ys ++ [.int 0])) (.lst ((bitsI n p.toNat).map D.int)) = some (.lst (ys ++ [.int 0] ++ (bitsI n p.toNat).map D.int)) := add_l (by rw [hl, List.length_append]; show _ + 1 + _ ≤ _; omega)
    refine ⟨ys ++ [.int 0] ++ (bitsI n p.toNat).map D.int, ?_, ?_⟩
    rotate_left
    · rw [List.length_append, List.length_append, hl]
      unfold sz
      rw [hho, if_pos hc1]
      show ((ys.length + 1 + p.toNat : Nat) : Int) = _
      omega
    · show outF false (g_rice_bits [.va (.int n), .va (.int p), .un, .un]) = _
      generalize hA2 : F_lowest_bits = A2 at e3
      unfold g_rice_bits
      rw [hA2]
      simp only [ev_name, ev_c, ev_op2, ev_op1, ev_toR1, ev_toRL1, ev_nil, ev_cons, ev_opn, ev_opnN, ev_tup, ev_lst, ev_lstN, ev_new, ev_tst, ev_notT, ev_andT, ev_orT, ev_notF, ev_andF, ev_orF, ev_ifF, ev_yes, ev_iter, ev_rng1, ev_rng2, ev_rngW, ev_noP, ev_sl, ev_part, ev_next, ev_noG, ev_seq, ev_drop, ev_ret, ev_retN, ev_if, ev_asg, ev_setA, ev_nilA, ev_consA, ev_seqT, ev_seqL, ev_setN, ev_ok, ev_ioV, ev_ioU, ev_ioW, ev_owV, ev_owU, ev_own, ev_put, ev_ixOwn, ev_lenOwn, ev_setIx, ev_okC, ev_wipe1, ev_wipe0, ev_rest1, ev_rest0, ev_call, ev_callN, ev_ofr, ev_ofn, ev_ofnN, ev_mut, ev_mdl, ev_mdi, ev_io, ev_addI, ev_subI, ev_negI, ev_cmpI, ev_eqI, ev_neI, ev_eqS, ev_neS, ev_intI, ev_intB, ev_absI, ev_lenL, ev_lenT, ev_ixL, ev_ixT, ev_at0, ev_at1, ev_at2, ev_i30, ev_i31, ev_i32, ev_pk1, ev_pk2, ev_pk3, ev_pk4, ev_pkw1, ev_pkw2, ev_pkv2, ev_isI, ev_isN, ev_isB, ev_inI, ev_inN, ev_inB, ev_listT, ev_listL, ev_tupT, ev_tupL, ev_fld, ev_insAt, ev_fldOwn, ev_fldG, ev_meth, ev_make, ev_callL, ev_noLI, ev_nilL, ev_nameL, ev_lendL, ev_conL, ev_augIx, ev_putAt, ev_iadd, ev_isub, ev_revT, ev_enum, ev_zip, ev_seqDL, ev_seqDT, ev_nilM, ev_vaM, ev_owM, ev_parM, ev_app, ev_par, ev_par3, ev_lam, ev_ra, ev_xfld, ev_isX, ev_isX_non, ev_hd_found, ev_hd_ret, ev_hd_expr, ev_hd_er, ev_outV, ev_outVn, ev_makeK, ev_band, ev_bxor, ev_bor, ev_aug, ev_trng1, ev_trng2, ev_revE, ev_idxF, ev_pop, R.bind_ok, R.out_ok, Option.bind_some, List.getElem?_cons_succ, List.getElem?_cons_zero, List.set_cons_succ, List.set_cons_zero, List.length_cons, List.length_nil, Nat.reduceAdd, Nat.reduceEqDiff, List.getD_cons_succ, List.getD_cons_zero, decide_true, decide_false, Bool.and_true, Bool.and_self, and_self, true_and, List.all_cons, List.all_nil, Bool.not_true, Bool.not_false, if_true, Bool.true_eq_false, Bool.false_eq_true, if_false, e2, hc, s1, e3, e4, e5, e6]
      rfl
  | false =>
    have hc1 := of_decide_eq_false hc
    obtain ⟨g, e7, hg⟩ := gamma_bits (n := ho - 16) (by omega) (by omega)
    have hgb := gz_bd (n := ho - 16) (by omega) (by omega)
    obtain ⟨ys, e4, hy⟩ := rep_l (xs := [.int 1]) (k := 16) (by decide) (by decide) rfl
    have e5 : addD (.lst ys) (.lst g) = some (.lst (ys ++ g)) := add_l (by omega)
    have e6 : addD (.lst (ys ++ g)) (.lst ((bitsI n p.toNat).map D.int)) = some (.lst (ys ++ g ++ (bitsI n p.toNat).map D.int)) := add_l (by rw [hl, List.length_append]; omega)
    refine ⟨ys ++ g ++ (bitsI n p.toNat).map D.int, ?_, ?_⟩
    rotate_left
    · rw [List.length_append, List.length_append, hl]
      unfold sz
      rw [hho, if_neg hc1]
      omega
    · show outF false (g_rice_bits [.va (.int n), .va (.int p), .un, .un]) = _
      generalize hA2 : F_lowest_bits = A2 at e3
      generalize hA3 : F_gamma_bits = A3 at e7
      unfold g_rice_bits
      rw [hA2, hA3]
      simp only [ev_name, ev_c, ev_op2, ev_op1, ev_toR1, ev_toRL1, ev_nil, ev_cons, ev_opn, ev_opnN, ev_tup, ev_lst, ev_lstN, ev_new, ev_tst, ev_notT, ev_andT, ev_orT, ev_notF, ev_andF, ev_orF, ev_ifF, ev_yes, ev_iter, ev_rng1, ev_rng2, ev_rngW, ev_noP, ev_sl, ev_part, ev_next, ev_noG, ev_seq, ev_drop, ev_ret, ev_retN, ev_if, ev_asg, ev_setA, ev_nilA, ev_consA, ev_seqT, ev_seqL, ev_setN, ev_ok, ev_ioV, ev_ioU, ev_ioW, ev_owV, ev_owU, ev_own, ev_put, ev_ixOwn, ev_lenOwn, ev_setIx, ev_okC, ev_wipe1, ev_wipe0, ev_rest1, ev_rest0, ev_call, ev_callN, ev_ofr, ev_ofn, ev_ofnN, ev_mut, ev_mdl, ev_mdi, ev_io, ev_addI, ev_subI, ev_negI, ev_cmpI, ev_eqI, ev_neI, ev_eqS, ev_neS, ev_intI, ev_intB, ev_absI, ev_lenL, ev_lenT, ev_ixL, ev_ixT, ev_at0, ev_at1, ev_at2, ev_i30, ev_i31, ev_i32, ev_pk1, ev_pk2, ev_pk3, ev_pk4, ev_pkw1, ev_pkw2, ev_pkv2, ev_isI, ev_isN, ev_isB, ev_inI, ev_inN, ev_inB, ev_listT, ev_listL, ev_tupT, ev_tupL, ev_fld, ev_insAt, ev_fldOwn, ev_fldG, ev_meth, ev_make, ev_callL, ev_noLI, ev_nilL, ev_nameL, ev_lendL, ev_conL, ev_augIx, ev_putAt, ev_iadd, ev_isub, ev_revT, ev_enum, ev_zip, ev_seqDL, ev_seqDT, ev_nilM, ev_vaM, ev_owM, ev_parM, ev_app, ev_par, ev_par3, ev_lam, ev_ra, ev_xfld, ev_isX, ev_isX_non, ev_hd_found, ev_hd_ret, ev_hd_expr, ev_hd_er, ev_outV, ev_outVn, ev_makeK, ev_band, ev_bxor, ev_bor, ev_aug, ev_trng1, ev_trng2, ev_revE, ev_idxF, ev_pop, R.bind_ok, R.out_ok, Option.bind_some, List.getElem?_cons_succ, List.getElem?_cons_zero, List.set_cons_succ, List.set_cons_zero, List.length_cons, List.length_nil, Nat.reduceAdd, Nat.reduceEqDiff, List.getD_cons_succ, List.getD_cons_zero, decide_true, decide_false, Bool.and_true, Bool.and_self, and_self, true_and, List.all_cons, List.all_nil, Bool.not_true, Bool.not_false, if_true, Bool.true_eq_false, Bool.false_eq_true, if_false, e2, hc, s1, e3, e4, e5, e6, e7]
      rfl
theorem size_by {n p : Int} (h : Nm n) (p0 : 0 ≤ p) : F_size_by [.int n, .int p] = .ret (.int (sz n p)) (.l []) := by
  obtain ⟨b0, b1⟩ := hi_bd h (p := p)
  have e2 : shrD (.int n) (.int p) = some (.int (n / 2 ^ p.toNat)) := ev_shr p0
  unfold sz
  obtain ⟨ho, hho⟩ : ∃ ho, n / 2 ^ p.toNat = ho := ⟨_, rfl⟩
  rw [hho] at b0 b1 e2 ⊢
  unfold Nm at h
  cases hc : decide (ho < 16) with
  | true =>
    rw [if_pos (of_decide_eq_true hc)]
    show outF false (g_size_by [.va (.int n), .va (.int p), .un]) = _
    simp only [g_size_by, ev_name, ev_c, ev_op2, ev_op1, ev_toR1, ev_toRL1, ev_nil, ev_cons, ev_opn, ev_opnN, ev_tup, ev_lst, ev_lstN, ev_new, ev_tst, ev_notT, ev_andT, ev_orT, ev_notF, ev_andF, ev_orF, ev_ifF, ev_yes, ev_iter, ev_rng1, ev_rng2, ev_rngW, ev_noP, ev_sl, ev_part, ev_next, ev_noG, ev_seq, ev_drop, ev_ret, ev_retN, ev_if, ev_asg, ev_setA, ev_nilA, ev_consA, ev_seqT, ev_seqL, ev_setN, ev_ok, ev_ioV, ev_ioU, ev_ioW, ev_owV, ev_owU, ev_own, ev_put, ev_ixOwn, ev_lenOwn, ev_setIx, ev_okC, ev_wipe1, ev_wipe0, ev_rest1, ev_rest0, ev_call, ev_callN, ev_ofr, ev_ofn, ev_ofnN, ev_mut, ev_mdl, ev_mdi, ev_io, ev_addI, ev_subI, ev_negI, ev_cmpI, ev_eqI, ev_neI, ev_eqS, ev_neS, ev_intI, ev_intB, ev_absI, ev_lenL, ev_lenT, ev_ixL, ev_ixT, ev_at0, ev_at1, ev_at2, ev_i30, ev_i31, ev_i32, ev_pk1, ev_pk2, ev_pk3, ev_pk4, ev_pkw1, ev_pkw2, ev_pkv2, ev_isI, ev_isN, ev_isB, ev_inI, ev_inN, ev_inB, ev_listT, ev_listL, ev_tupT, ev_tupL, ev_fld, ev_insAt, ev_fldOwn, ev_fldG, ev_meth, ev_make, ev_callL, ev_noLI, ev_nilL, ev_nameL, ev_lendL, ev_conL, ev_augIx, ev_putAt, ev_iadd, ev_isub, ev_revT, ev_enum, ev_zip, ev_seqDL, ev_seqDT, ev_nilM, ev_vaM, ev_owM, ev_parM, ev_app, ev_par, ev_par3, ev_lam, ev_ra, ev_xfld, ev_isX, ev_isX_non, ev_hd_found, ev_hd_ret, ev_hd_expr, ev_hd_er, ev_outV, ev_outVn, ev_makeK, ev_band, ev_bxor, ev_bor, ev_aug, ev_trng1, ev_trng2, ev_revE, ev_idxF, ev_pop, R.bind_ok, R.out_ok, Option.bind_some, List.getElem?_cons_succ, List.getElem?_cons_zero, List.set_cons_succ, List.set_cons_zero, List.length_cons, List.length_nil, Nat.reduceAdd, Nat.reduceEqDiff, List.getD_cons_succ, List.getD_cons_zero, decide_true, decide_false, Bool.and_true, Bool.and_self, and_self, true_and, List.all_cons, List.all_nil, Bool.not_true, Bool.not_false, if_true, Bool.true_eq_false, Bool.false_eq_true, if_false, e2, hc]
    rfl
  | false =>
    have hc1 := of_decide_eq_false hc
    have e7 := gamma_size (n := ho - 16) (by omega) (by omega)
    rw [if_neg hc1]
    show outF false (g_size_by [.va (.int n), .va (.int p), .un]) = _
    simp only [g_size_by, ev_name, ev_c, ev_op2, ev_op1, ev_toR1, ev_toRL1, ev_nil, ev_cons, ev_opn, ev_opnN, ev_tup, ev_lst, ev_lstN, ev_new, ev_tst, ev_notT, ev_andT, ev_orT, ev_notF, ev_andF, ev_orF, ev_ifF, ev_yes, ev_iter, ev_rng1, ev_rng2, ev_rngW, ev_noP, ev_sl, ev_part, ev_next, ev_noG, ev_seq, ev_drop, ev_ret, ev_retN, ev_if, ev_asg, ev_setA, ev_nilA, ev_consA, ev_seqT, ev_seqL, ev_setN, ev_ok, ev_ioV, ev_ioU, ev_ioW, ev_owV, ev_owU, ev_own, ev_put, ev_ixOwn, ev_lenOwn, ev_setIx, ev_okC, ev_wipe1, ev_wipe0, ev_rest1, ev_rest0, ev_call, ev_callN, ev_ofr, ev_ofn, ev_ofnN, ev_mut, ev_mdl, ev_mdi, ev_io, ev_addI, ev_subI, ev_negI, ev_cmpI, ev_eqI, ev_neI, ev_eqS, ev_neS, ev_intI, ev_intB, ev_absI, ev_lenL, ev_lenT, ev_ixL, ev_ixT, ev_at0, ev_at1, ev_at2, ev_i30, ev_i31, ev_i32, ev_pk1, ev_pk2, ev_pk3, ev_pk4, ev_pkw1, ev_pkw2, ev_pkv2, ev_isI, ev_isN, ev_isB, ev_inI, ev_inN, ev_inB, ev_listT, ev_listL, ev_tupT, ev_tupL, ev_fld, ev_insAt, ev_fldOwn, ev_fldG, ev_meth, ev_make, ev_callL, ev_noLI, ev_nilL, ev_nameL, ev_lendL, ev_conL, ev_augIx, ev_putAt, ev_iadd, ev_isub, ev_revT, ev_enum, ev_zip, ev_seqDL, ev_seqDT, ev_nilM, ev_vaM, ev_owM, ev_parM, ev_app, ev_par, ev_par3, ev_lam, ev_ra, ev_xfld, ev_isX, ev_isX_non, ev_hd_found, ev_hd_ret, ev_hd_expr, ev_hd_er, ev_outV, ev_outVn, ev_makeK, ev_band, ev_bxor, ev_bor, ev_aug, ev_trng1, ev_trng2, ev_revE, ev_idxF, ev_pop, R.bind_ok, R.out_ok, Option.bind_some, List.getElem?_cons_succ, List.getElem?_cons_zero, List.set_cons_succ, List.set_cons_zero, List.length_cons, List.length_nil, Nat.reduceAdd, Nat.reduceEqDiff, List.getD_cons_succ, List.getD_cons_zero, decide_true, decide_false, Bool.and_true, Bool.and_self, and_self, true_and, List.all_cons, List.all_nil, Bool.not_true, Bool.not_false, if_true, Bool.true_eq_false, Bool.false_eq_true, if_false, e2, hc, e7]
    rfl
end
theorem integer (v : Int) : F_is_integer [.int v] = .ret (.bl true) (.l []) := rfl
theorem within {v a b : Int} (h1 : a ≤ v) (h2 : v ≤ b) : F_is_within [.int v, .int a, .int b] = .ret (.bl true) (.l []) := by
  show outF false (g_is_within [.va (.int v), .va (.int a), .va (.int b)]) = _
  simp only [g_is_within, ev_name, ev_c, ev_op2, ev_op1, ev_toR1, ev_toRL1, ev_nil, ev_cons, ev_opn, ev_opnN, ev_tup, ev_lst, ev_lstN, ev_new, ev_tst, ev_notT, ev_andT, ev_orT, ev_notF, ev_andF, ev_orF, ev_ifF, ev_yes, ev_iter, ev_rng1, ev_rng2, ev_rngW, ev_noP, ev_sl, ev_part, ev_next, ev_noG, ev_seq, ev_drop, ev_ret, ev_retN, ev_if, ev_asg, ev_setA, ev_nilA, ev_consA, ev_seqT, ev_seqL, ev_setN, ev_ok, ev_ioV, ev_ioU, ev_ioW, ev_owV, ev_owU, ev_own, ev_put, ev_ixOwn, ev_lenOwn, ev_setIx, ev_comp, ev_compL0, ev_compL1, ev_okC, ev_wipe1, ev_wipe0, ev_rest1, ev_rest0, ev_call, ev_callN, ev_ofr, ev_ofn, ev_ofnN, ev_mut, ev_mdl, ev_mdi, ev_io, ev_addI, ev_subI, ev_negI, ev_cmpI, ev_eqI, ev_neI, ev_eqS, ev_neS, ev_intI, ev_intB, ev_absI, ev_lenL, ev_lenT, ev_ixL, ev_ixT, ev_at0, ev_at1, ev_at2, ev_i30, ev_i31, ev_i32, ev_pk1, ev_pk2, ev_pk3, ev_pk4, ev_pkw1, ev_pkw2, ev_pkv2, ev_isI, ev_isN, ev_isB, ev_inI, ev_inN, ev_inB, ev_listT, ev_listL, ev_tupT, ev_tupL, ev_fld, ev_insAt, ev_fldOwn, ev_fldG, ev_meth, ev_make, ev_callL, ev_noLI, ev_nilL, ev_nameL, ev_lendL, ev_conL, ev_augIx, ev_putAt, ev_iadd, ev_isub, ev_revT, ev_enum, ev_zip, ev_seqDL, ev_seqDT, ev_nilM, ev_vaM, ev_owM, ev_parM, ev_app, ev_par, ev_par3, ev_lam, ev_ra, ev_xfld, ev_isX, ev_isX_non, ev_hd_found, ev_hd_ret, ev_hd_expr, ev_hd_er, ev_outV, ev_outVn, ev_makeK, ev_band, ev_bxor, ev_bor, ev_aug, ev_trng1, ev_trng2, ev_revE, ev_idxF, ev_pop, R.bind_ok, R.out_ok, Option.bind_some, List.getElem?_cons_succ, List.getElem?_cons_zero, List.set_cons_succ, List.set_cons_zero, List.length_cons, List.length_nil, Nat.reduceAdd, Nat.reduceEqDiff, List.getD_cons_succ, List.getD_cons_zero, decide_true, decide_false, Bool.and_true, Bool.and_self, and_self, true_and, List.all_cons, List.all_nil, Bool.not_true, Bool.not_false, if_true, Bool.true_eq_false, Bool.false_eq_true, if_false, integer, decide_eq_true h1, decide_eq_true h2, Bool.not_true]
  rfl
theorem natural {n : Int} (h : 0 ≤ n) (z : Str) : F_need_natural [.int n, .str z] = .ret .non (.l []) := by
  show outF false (g_need_natural [.va (.int n), .va (.str z)]) = _
  have e : decide (n < 0) = false := decide_eq_false (by omega)
  simp only [g_need_natural, ev_name, ev_c, ev_op2, ev_op1, ev_toR1, ev_toRL1, ev_nil, ev_cons, ev_opn, ev_opnN, ev_tup, ev_lst, ev_lstN, ev_new, ev_tst, ev_notT, ev_andT, ev_orT, ev_notF, ev_andF, ev_orF, ev_ifF, ev_yes, ev_iter, ev_rng1, ev_rng2, ev_rngW, ev_noP, ev_sl, ev_part, ev_next, ev_noG, ev_seq, ev_drop, ev_ret, ev_retN, ev_if, ev_asg, ev_setA, ev_nilA, ev_consA, ev_seqT, ev_seqL, ev_setN, ev_ok, ev_ioV, ev_ioU, ev_ioW, ev_owV, ev_owU, ev_own, ev_put, ev_ixOwn, ev_lenOwn, ev_setIx, ev_comp, ev_compL0, ev_compL1, ev_okC, ev_wipe1, ev_wipe0, ev_rest1, ev_rest0, ev_call, ev_callN, ev_ofr, ev_ofn, ev_ofnN, ev_mut, ev_mdl, ev_mdi, ev_io, ev_addI, ev_subI, ev_negI, ev_cmpI, ev_eqI, ev_neI, ev_eqS, ev_neS, ev_intI, ev_intB, ev_absI, ev_lenL, ev_lenT, ev_ixL, ev_ixT, ev_at0, ev_at1, ev_at2, ev_i30, ev_i31, ev_i32, ev_pk1, ev_pk2, ev_pk3, ev_pk4, ev_pkw1, ev_pkw2, ev_pkv2, ev_isI, ev_isN, ev_isB, ev_inI, ev_inN, ev_inB, ev_listT, ev_listL, ev_tupT, ev_tupL, ev_fld, ev_insAt, ev_fldOwn, ev_fldG, ev_meth, ev_make, ev_callL, ev_noLI, ev_nilL, ev_nameL, ev_lendL, ev_conL, ev_augIx, ev_putAt, ev_iadd, ev_isub, ev_revT, ev_enum, ev_zip, ev_seqDL, ev_seqDT, ev_nilM, ev_vaM, ev_owM, ev_parM, ev_app, ev_par, ev_par3, ev_lam, ev_ra, ev_xfld, ev_isX, ev_isX_non, ev_hd_found, ev_hd_ret, ev_hd_expr, ev_hd_er, ev_outV, ev_outVn, ev_makeK, ev_band, ev_bxor, ev_bor, ev_aug, ev_trng1, ev_trng2, ev_revE, ev_idxF, ev_pop, R.bind_ok, R.out_ok, Option.bind_some, List.getElem?_cons_succ, List.getElem?_cons_zero, List.set_cons_succ, List.set_cons_zero, List.length_cons, List.length_nil, Nat.reduceAdd, Nat.reduceEqDiff, List.getD_cons_succ, List.getD_cons_zero, decide_true, decide_false, Bool.and_true, Bool.and_self, and_self, true_and, List.all_cons, List.all_nil, Bool.not_true, Bool.not_false, if_true, Bool.true_eq_false, Bool.false_eq_true, if_false, integer, e]
  rfl
theorem parameter {p : Int} (p0 : 0 ≤ p) (p1 : p ≤ 20) : F_need_parameter [.int p] = .ret .non (.l []) := by
  show outF false (g_need_parameter [.va (.int p)]) = _
  simp only [g_need_parameter, ev_name, ev_c, ev_op2, ev_op1, ev_toR1, ev_toRL1, ev_nil, ev_cons, ev_opn, ev_opnN, ev_tup, ev_lst, ev_lstN, ev_new, ev_tst, ev_notT, ev_andT, ev_orT, ev_notF, ev_andF, ev_orF, ev_ifF, ev_yes, ev_iter, ev_rng1, ev_rng2, ev_rngW, ev_noP, ev_sl, ev_part, ev_next, ev_noG, ev_seq, ev_drop, ev_ret, ev_retN, ev_if, ev_asg, ev_setA, ev_nilA, ev_consA, ev_seqT, ev_seqL, ev_setN, ev_ok, ev_ioV, ev_ioU, ev_ioW, ev_owV, ev_owU, ev_own, ev_put, ev_ixOwn, ev_lenOwn, ev_setIx, ev_comp, ev_compL0, ev_compL1, ev_okC, ev_wipe1, ev_wipe0, ev_rest1, ev_rest0, ev_call, ev_callN, ev_ofr, ev_ofn, ev_ofnN, ev_mut, ev_mdl, ev_mdi, ev_io, ev_addI, ev_subI, ev_negI, ev_cmpI, ev_eqI, ev_neI, ev_eqS, ev_neS, ev_intI, ev_intB, ev_absI, ev_lenL, ev_lenT, ev_ixL, ev_ixT, ev_at0, ev_at1, ev_at2, ev_i30, ev_i31, ev_i32, ev_pk1, ev_pk2, ev_pk3, ev_pk4, ev_pkw1, ev_pkw2, ev_pkv2, ev_isI, ev_isN, ev_isB, ev_inI, ev_inN, ev_inB, ev_listT, ev_listL, ev_tupT, ev_tupL, ev_fld, ev_insAt, ev_fldOwn, ev_fldG, ev_meth, ev_make, ev_callL, ev_noLI, ev_nilL, ev_nameL, ev_lendL, ev_conL, ev_augIx, ev_putAt, ev_iadd, ev_isub, ev_revT, ev_enum, ev_zip, ev_seqDL, ev_seqDT, ev_nilM, ev_vaM, ev_owM, ev_parM, ev_app, ev_par, ev_par3, ev_lam, ev_ra, ev_xfld, ev_isX, ev_isX_non, ev_hd_found, ev_hd_ret, ev_hd_expr, ev_hd_er, ev_outV, ev_outVn, ev_makeK, ev_band, ev_bxor, ev_bor, ev_aug, ev_trng1, ev_trng2, ev_revE, ev_idxF, ev_pop, R.bind_ok, R.out_ok, Option.bind_some, List.getElem?_cons_succ, List.getElem?_cons_zero, List.set_cons_succ, List.set_cons_zero, List.length_cons, List.length_nil, Nat.reduceAdd, Nat.reduceEqDiff, List.getD_cons_succ, List.getD_cons_zero, decide_true, decide_false, Bool.and_true, Bool.and_self, and_self, true_and, List.all_cons, List.all_nil, Bool.not_true, Bool.not_false, if_true, Bool.true_eq_false, Bool.false_eq_true, if_false, within p0 p1]
  rfl
theorem pkd {d : D} {z : Str} : pickG 1 0 [.str z] [0, 1] [d] [] = [d, .str z] := rfl
theorem rice {n p : Int} (h : Nm n) (p0 : 0 ≤ p) (p1 : p ≤ 20) : ∃ L, F_rice [.int n, .int p] = .ret (.tup L) (.l []) ∧ (L.length : Int) = sz n p := by
  obtain ⟨L, e, hl⟩ := rice_bits h p0 p1
  refine ⟨L, ?_, hl⟩
  show outF false (g_rice [.va (.int n), .va (.int p)]) = _
  simp only [g_rice, ev_name, ev_c, ev_op2, ev_op1, ev_toR1, ev_toRL1, ev_nil, ev_cons, ev_opn, ev_opnN, ev_tup, ev_lst, ev_lstN, ev_new, ev_tst, ev_notT, ev_andT, ev_orT, ev_notF, ev_andF, ev_orF, ev_ifF, ev_yes, ev_iter, ev_rng1, ev_rng2, ev_rngW, ev_noP, ev_sl, ev_part, ev_next, ev_noG, ev_seq, ev_drop, ev_ret, ev_retN, ev_if, ev_asg, ev_setA, ev_nilA, ev_consA, ev_seqT, ev_seqL, ev_setN, ev_ok, ev_ioV, ev_ioU, ev_ioW, ev_owV, ev_owU, ev_own, ev_put, ev_ixOwn, ev_lenOwn, ev_setIx, ev_comp, ev_compL0, ev_compL1, ev_okC, ev_wipe1, ev_wipe0, ev_rest1, ev_rest0, ev_call, ev_callN, ev_ofr, ev_ofn, ev_ofnN, ev_mut, ev_mdl, ev_mdi, ev_io, ev_addI, ev_subI, ev_negI, ev_cmpI, ev_eqI, ev_neI, ev_eqS, ev_neS, ev_intI, ev_intB, ev_absI, ev_lenL, ev_lenT, ev_ixL, ev_ixT, ev_at0, ev_at1, ev_at2, ev_i30, ev_i31, ev_i32, ev_pk1, ev_pk2, ev_pk3, ev_pk4, ev_pkw1, ev_pkw2, ev_pkv2, ev_isI, ev_isN, ev_isB, ev_inI, ev_inN, ev_inB, ev_listT, ev_listL, ev_tupT, ev_tupL, ev_fld, ev_insAt, ev_fldOwn, ev_fldG, ev_meth, ev_make, ev_callL, ev_noLI, ev_nilL, ev_nameL, ev_lendL, ev_conL, ev_augIx, ev_putAt, ev_iadd, ev_isub, ev_revT, ev_enum, ev_zip, ev_seqDL, ev_seqDT, ev_nilM, ev_vaM, ev_owM, ev_parM, ev_app, ev_par, ev_par3, ev_lam, ev_ra, ev_xfld, ev_isX, ev_isX_non, ev_hd_found, ev_hd_ret, ev_hd_expr, ev_hd_er, ev_outV, ev_outVn, ev_makeK, ev_band, ev_bxor, ev_bor, ev_aug, ev_trng1, ev_trng2, ev_revE, ev_idxF, ev_pop, R.bind_ok, R.out_ok, Option.bind_some, List.getElem?_cons_succ, List.getElem?_cons_zero, List.set_cons_succ, List.set_cons_zero, List.length_cons, List.length_nil, Nat.reduceAdd, Nat.reduceEqDiff, List.getD_cons_succ, List.getD_cons_zero, decide_true, decide_false, Bool.and_true, Bool.and_self, and_self, true_and, List.all_cons, List.all_nil, Bool.not_true, Bool.not_false, if_true, Bool.true_eq_false, Bool.false_eq_true, if_false, pkd, natural h.1, parameter p0 p1, e]
  rfl
theorem rice_size {n p : Int} (h : Nm n) (p0 : 0 ≤ p) (p1 : p ≤ 20) : F_rice_size [.int n, .int p] = .ret (.int (sz n p)) (.l []) := by
  have e := size_by h p0
  show outF false (g_rice_size [.va (.int n), .va (.int p)]) = _
  simp only [g_rice_size, ev_name, ev_c, ev_op2, ev_op1, ev_toR1, ev_toRL1, ev_nil, ev_cons, ev_opn, ev_opnN, ev_tup, ev_lst, ev_lstN, ev_new, ev_tst, ev_notT, ev_andT, ev_orT, ev_notF, ev_andF, ev_orF, ev_ifF, ev_yes, ev_iter, ev_rng1, ev_rng2, ev_rngW, ev_noP, ev_sl, ev_part, ev_next, ev_noG, ev_seq, ev_drop, ev_ret, ev_retN, ev_if, ev_asg, ev_setA, ev_nilA, ev_consA, ev_seqT, ev_seqL, ev_setN, ev_ok, ev_ioV, ev_ioU, ev_ioW, ev_owV, ev_owU, ev_own, ev_put, ev_ixOwn, ev_lenOwn, ev_setIx, ev_comp, ev_compL0, ev_compL1, ev_okC, ev_wipe1, ev_wipe0, ev_rest1, ev_rest0, ev_call, ev_callN, ev_ofr, ev_ofn, ev_ofnN, ev_mut, ev_mdl, ev_mdi, ev_io, ev_addI, ev_subI, ev_negI, ev_cmpI, ev_eqI, ev_neI, ev_eqS, ev_neS, ev_intI, ev_intB, ev_absI, ev_lenL, ev_lenT, ev_ixL, ev_ixT, ev_at0, ev_at1, ev_at2, ev_i30, ev_i31, ev_i32, ev_pk1, ev_pk2, ev_pk3, ev_pk4, ev_pkw1, ev_pkw2, ev_pkv2, ev_isI, ev_isN, ev_isB, ev_inI, ev_inN, ev_inB, ev_listT, ev_listL, ev_tupT, ev_tupL, ev_fld, ev_insAt, ev_fldOwn, ev_fldG, ev_meth, ev_make, ev_callL, ev_noLI, ev_nilL, ev_nameL, ev_lendL, ev_conL, ev_augIx, ev_putAt, ev_iadd, ev_isub, ev_revT, ev_enum, ev_zip, ev_seqDL, ev_seqDT, ev_nilM, ev_vaM, ev_owM, ev_parM, ev_app, ev_par, ev_par3, ev_lam, ev_ra, ev_xfld, ev_isX, ev_isX_non, ev_hd_found, ev_hd_ret, ev_hd_expr, ev_hd_er, ev_outV, ev_outVn, ev_makeK, ev_band, ev_bxor, ev_bor, ev_aug, ev_trng1, ev_trng2, ev_revE, ev_idxF, ev_pop, R.bind_ok, R.out_ok, Option.bind_some, List.getElem?_cons_succ, List.getElem?_cons_zero, List.set_cons_succ, List.set_cons_zero, List.length_cons, List.length_nil, Nat.reduceAdd, Nat.reduceEqDiff, List.getD_cons_succ, List.getD_cons_zero, decide_true, decide_false, Bool.and_true, Bool.and_self, and_self, true_and, List.all_cons, List.all_nil, Bool.not_true, Bool.not_false, if_true, Bool.true_eq_false, Bool.false_eq_true, if_false, pkd, natural h.1, parameter p0 p1, e]
  rfl
end Fx

set_option Elab.async false
set_option linter.all false
set_option maxRecDepth 100000
set_option exponentiation.threshold 3000
namespace Fx
variable [Tbl]
open PySem L2 PyProof.Rows
/-! ### the best parameter -/
def tot (ms : List Int) (p : Int) : Int := (ms.map fun n => sz n p).sum
def szs (ms : List Int) : List Int := (intsR 0 21).map (tot ms)
def mn : List Int → Int
  | [] => 0
  | a :: r => minI a r
def bi (l : List Int) : Int := ((firstI (mn l) l).getD 0 : Nat)
abbrev Row (ms : List Int) : Prop := ms.length ≤ 1000 ∧ ∀ n ∈ ms, Nm n
theorem szs_len (ms : List Int) : (szs ms).length = 21 := by
  unfold szs
  rw [List.length_map, ints_len]
  rfl
theorem r21 {p : Int} (h : p ∈ intsR 0 21) : 0 ≤ p ∧ p ≤ 20 := by
  unfold intsR at h
  obtain ⟨j, hj, rfl⟩ := List.mem_map.mp h
  rw [List.mem_range] at hj
  omega
theorem sumE (ns : List Int) : sumD [.lst (ns.map D.int)] = some (.int ns.sum) := by
  show (intsD (ns.map D.int)).map (fun ns => D.int ns.sum) = _
  rw [intsD.map]
  rfl
theorem minE {l : List Int} (h : l ≠ []) : minD [.lst (l.map D.int)] = some (.int (mn l)) := by
  cases l with
  | nil => exact absurd rfl h
  | cons a r =>
    show (match intsD ((a :: r).map D.int) with
      | some (a :: r) => some (D.int (minI a r))
      | _ => none) = _
    rw [intsD.map]
    rfl
theorem firstI_some {i : Int} : ∀ {l : List Int}, i ∈ l → ∃ j, firstI i l = some j ∧ j < l.length
  | [], h => absurd h List.not_mem_nil
  | n :: l, h => by
    unfold firstI
    by_cases e : n = i
    · rw [if_pos e]
      exact ⟨0, rfl, by rw [List.length_cons]; omega⟩
    · rw [if_neg e]
      rcases List.mem_cons.mp h with h | h
      · exact absurd h.symm e
      · obtain ⟨j, hj, hl⟩ := firstI_some h
        exact ⟨j + 1, by rw [hj]; rfl, by rw [List.length_cons]; omega⟩
theorem mn_mem {l : List Int} (h : l ≠ []) : mn l ∈ l := by
  cases l with
  | nil => exact absurd rfl h
  | cons a r =>
    rcases (minI_spec r a).1 with h1 | h1
    · exact List.mem_cons.mpr (.inl h1)
    · exact List.mem_cons_of_mem _ h1
theorem idxE {l : List Int} (h : l ≠ []) : idxD (.lst (l.map D.int)) (.int (mn l)) = some (.int (bi l)) := by
  obtain ⟨j, hj, _⟩ := firstI_some (mn_mem h)
  show ((intsD (l.map D.int)).bind fun ns => (firstI (mn l) ns).map fun j => D.int (j : Nat)) = _
  unfold bi
  rw [intsD.map, Option.bind_some, hj]
  rfl
theorem bi_bd {l : List Int} (h : l ≠ []) : 0 ≤ bi l ∧ bi l < l.length := by
  obtain ⟨j, hj, hl⟩ := firstI_some (mn_mem h)
  unfold bi
  rw [hj]
  exact ⟨by omega, by show ((j : Nat) : Int) < _; omega⟩
theorem szs_ne (ms : List Int) : szs ms ≠ [] := fun h => by
  have := szs_len ms
  rw [h] at this
  cases this
/-! what does not change it -/
theorem tot_rev (ms : List Int) (p : Int) : tot ms.reverse p = tot ms p := by
  unfold tot
  rw [List.map_reverse]
  have : ∀ l : List Int, l.reverse.sum = l.sum := fun l => by
    induction l with
    | nil => rfl
    | cons a l ih =>
      rw [List.reverse_cons, List.sum_append, ih, List.sum_cons, List.sum_cons, List.sum_nil]
      omega
  exact this _
theorem szs_rev (ms : List Int) : szs ms.reverse = szs ms := by
  unfold szs
  exact List.map_congr_left fun p _ => tot_rev ms p
theorem szs_two (ms : List Int) : szs (ms ++ ms) = (szs ms).map (2 * ·) := by
  unfold szs
  rw [List.map_map]
  refine List.map_congr_left fun p _ => ?_
  show tot (ms ++ ms) p = 2 * tot ms p
  unfold tot
  rw [List.map_append, List.sum_append]
  omega
theorem minI_two : ∀ (r : List Int) (a : Int), minI (2 * a) (r.map (2 * ·)) = 2 * minI a r
  | [], a => rfl
  | b :: r, a => by
    rw [List.map_cons]
    show minI (if 2 * b < 2 * a then 2 * b else 2 * a) _ = 2 * minI (if b < a then b else a) r
    by_cases h : b < a
    · rw [if_pos h, if_pos (by omega)]
      exact minI_two r b
    · rw [if_neg h, if_neg (by omega)]
      exact minI_two r a
theorem mn_two (l : List Int) : mn (l.map (2 * ·)) = 2 * mn l := by
  cases l with
  | nil => rfl
  | cons a r => exact minI_two r a
theorem firstI_two (i : Int) : ∀ l : List Int, firstI (2 * i) (l.map (2 * ·)) = firstI i l
  | [] => rfl
  | n :: l => by
    rw [List.map_cons]
    unfold firstI
    rw [firstI_two i l]
    by_cases h : n = i
    · rw [if_pos h, if_pos (by omega)]
    · rw [if_neg h, if_neg (by omega)]
theorem bi_two (ms : List Int) : bi (szs (ms ++ ms)) = bi (szs ms) := by
  unfold bi
  rw [szs_two, mn_two, firstI_two]
/-! ### the walk -/
section
variable {x : D} {ms : List Int}
theorem law_sizes (h : Row ms) : F__law_sizes [.lst (ms.map D.int)] = .retn ((szs ms).map D.int) (.l []) := by
  have hc : compN (rng1F (cF (.int 21))) [1] (setA 1) yesT (opnF sumD (consF (lstF' (compN (iterF (nameF 0)) [2] (setA 2) yesT (opnF lenD (consF (callF F__law_rice 2 (pickG 2 0 [] [0, 1]) (consF (nameF 2) (consF (nameF 1) nilF)) nilF) nilF)))) nilF)) [.va (.lst (ms.map D.int)), .un, .un]
      = .ok ((intsR 0 21).map fun p => D.int (tot ms p)) [.va (.lst (ms.map D.int)), .un, .un] := by
    refine compN_src1 D.int (fun p => D.int (tot ms p)) (xs := intsR 0 21) ?_ (by rw [ints_len, sizeLine_eq]; decide) (y0 := .un) rfl Pl.un rfl fun p hp => ?_
    · rw [← rngD_ints]
      exact rng1E rfl rfl
    · obtain ⟨p0, p1⟩ := r21 hp
      have hi : compN (iterF (nameF 0)) [2] (setA 2) yesT (opnF lenD (consF (callF F__law_rice 2 (pickG 2 0 [] [0, 1]) (consF (nameF 2) (consF (nameF 1) nilF)) nilF) nilF)) [.va (.lst (ms.map D.int)), .va (.int p), .un] = .ok ((ms.map fun n => sz n p).map D.int) [.va (.lst (ms.map D.int)), .va (.int p), .un] := by
        rw [List.map_map]
        refine compN_src1 D.int (fun n => D.int (sz n p)) (xs := ms) rfl (by have := h.1; rw [sizeLine_eq]; omega) (y0 := .un) rfl Pl.un rfl fun n hn => ?_
        obtain ⟨L, e, hl⟩ := law_rice (h.2 n hn) p0 p1
        simp only [ev_name, ev_c, ev_op2, ev_op1, ev_toR1, ev_toRL1, ev_nil, ev_cons, ev_opn, ev_opnN, ev_tup, ev_lst, ev_lstN, ev_new, ev_tst, ev_notT, ev_andT, ev_orT, ev_notF, ev_andF, ev_orF, ev_ifF, ev_yes, ev_iter, ev_rng1, ev_rng2, ev_rngW, ev_noP, ev_sl, ev_part, ev_next, ev_noG, ev_seq, ev_drop, ev_ret, ev_retN, ev_if, ev_asg, ev_setA, ev_nilA, ev_consA, ev_seqT, ev_seqL, ev_setN, ev_ok, ev_ioV, ev_ioU, ev_ioW, ev_owV, ev_owU, ev_own, ev_put, ev_ixOwn, ev_lenOwn, ev_setIx, ev_okC, ev_wipe1, ev_wipe0, ev_rest1, ev_rest0, ev_call, ev_callN, ev_ofr, ev_ofn, ev_ofnN, ev_mut, ev_mdl, ev_mdi, ev_io, ev_addI, ev_subI, ev_negI, ev_cmpI, ev_eqI, ev_neI, ev_eqS, ev_neS, ev_intI, ev_intB, ev_absI, ev_lenL, ev_lenT, ev_ixL, ev_ixT, ev_at0, ev_at1, ev_at2, ev_i30, ev_i31, ev_i32, ev_pk1, ev_pk2, ev_pk3, ev_pk4, ev_pkw1, ev_pkw2, ev_pkv2, ev_isI, ev_isN, ev_isB, ev_inI, ev_inN, ev_inB, ev_listT, ev_listL, ev_tupT, ev_tupL, ev_fld, ev_insAt, ev_fldOwn, ev_fldG, ev_meth, ev_make, ev_callL, ev_noLI, ev_nilL, ev_nameL, ev_lendL, ev_conL, ev_augIx, ev_putAt, ev_iadd, ev_isub, ev_revT, ev_enum, ev_zip, ev_seqDL, ev_seqDT, ev_nilM, ev_vaM, ev_owM, ev_parM, ev_app, ev_par, ev_par3, ev_lam, ev_ra, ev_xfld, ev_isX, ev_isX_non, ev_hd_found, ev_hd_ret, ev_hd_expr, ev_hd_er, ev_outV, ev_outVn, ev_makeK, ev_band, ev_bxor, ev_bor, ev_aug, ev_trng1, ev_trng2, ev_revE, ev_idxF, ev_pop, R.bind_ok, R.out_ok, Option.bind_some, List.getElem?_cons_succ, List.getElem?_cons_zero, List.set_cons_succ, List.set_cons_zero, List.length_cons, List.length_nil, Nat.reduceAdd, Nat.reduceEqDiff, List.getD_cons_succ, List.getD_cons_zero, decide_true, decide_false, Bool.and_true, Bool.and_self, and_self, true_and, List.all_cons, List.all_nil, Bool.not_true, Bool.not_false, if_true, Bool.true_eq_false, Bool.false_eq_true, if_false, e, hl]
      have es := sumE (ms.map fun n => sz n p)
      simp only [ev_name, ev_c, ev_op2, ev_op1, ev_toR1, ev_toRL1, ev_nil, ev_cons, ev_opn, ev_opnN, ev_tup, ev_lst, ev_lstN, ev_new, ev_tst, ev_notT, ev_andT, ev_orT, ev_notF, ev_andF, ev_orF, ev_ifF, ev_yes, ev_iter, ev_rng1, ev_rng2, ev_rngW, ev_noP, ev_sl, ev_part, ev_next, ev_noG, ev_seq, ev_drop, ev_ret, ev_retN, ev_if, ev_asg, ev_setA, ev_nilA, ev_consA, ev_seqT, ev_seqL, ev_setN, ev_ok, ev_ioV, ev_ioU, ev_ioW, ev_owV, ev_owU, ev_own, ev_put, ev_ixOwn, ev_lenOwn, ev_setIx, ev_okC, ev_wipe1, ev_wipe0, ev_rest1, ev_rest0, ev_call, ev_callN, ev_ofr, ev_ofn, ev_ofnN, ev_mut, ev_mdl, ev_mdi, ev_io, ev_addI, ev_subI, ev_negI, ev_cmpI, ev_eqI, ev_neI, ev_eqS, ev_neS, ev_intI, ev_intB, ev_absI, ev_lenL, ev_lenT, ev_ixL, ev_ixT, ev_at0, ev_at1, ev_at2, ev_i30, ev_i31, ev_i32, ev_pk1, ev_pk2, ev_pk3, ev_pk4, ev_pkw1, ev_pkw2, ev_pkv2, ev_isI, ev_isN, ev_isB, ev_inI, ev_inN, ev_inB, ev_listT, ev_listL, ev_tupT, ev_tupL, ev_fld, ev_insAt, ev_fldOwn, ev_fldG, ev_meth, ev_make, ev_callL, ev_noLI, ev_nilL, ev_nameL, ev_lendL, ev_conL, ev_augIx, ev_putAt, ev_iadd, ev_isub, ev_revT, ev_enum, ev_zip, ev_seqDL, ev_seqDT, ev_nilM, ev_vaM, ev_owM, ev_parM, ev_app, ev_par, ev_par3, ev_lam, ev_ra, ev_xfld, ev_isX, ev_isX_non, ev_hd_found, ev_hd_ret, ev_hd_expr, ev_hd_er, ev_outV, ev_outVn, ev_makeK, ev_band, ev_bxor, ev_bor, ev_aug, ev_trng1, ev_trng2, ev_revE, ev_idxF, ev_pop, R.bind_ok, R.out_ok, Option.bind_some, List.getElem?_cons_succ, List.getElem?_cons_zero, List.set_cons_succ, List.set_cons_zero, List.length_cons, List.length_nil, Nat.reduceAdd, Nat.reduceEqDiff, List.getD_cons_succ, List.getD_cons_zero, decide_true, decide_false, Bool.and_true, Bool.and_self, and_self, true_and, List.all_cons, List.all_nil, Bool.not_true, Bool.not_false, if_true, Bool.true_eq_false, Bool.false_eq_true, if_false, hi, es]
      rfl
  have e : (szs ms).map D.int = (intsR 0 21).map fun p => D.int (tot ms p) := by
    unfold szs
    rw [List.map_map]
    rfl
  rw [e]
  show outF false (g__law_sizes [.va (.lst (ms.map D.int)), .un, .un]) = _
  simp only [g__law_sizes, ev_name, ev_c, ev_op2, ev_op1, ev_toR1, ev_toRL1, ev_nil, ev_cons, ev_opn, ev_opnN, ev_tup, ev_lst, ev_lstN, ev_new, ev_tst, ev_notT, ev_andT, ev_orT, ev_notF, ev_andF, ev_orF, ev_ifF, ev_yes, ev_iter, ev_rng1, ev_rng2, ev_rngW, ev_noP, ev_sl, ev_part, ev_next, ev_noG, ev_seq, ev_drop, ev_ret, ev_retN, ev_if, ev_asg, ev_setA, ev_nilA, ev_consA, ev_seqT, ev_seqL, ev_setN, ev_ok, ev_ioV, ev_ioU, ev_ioW, ev_owV, ev_owU, ev_own, ev_put, ev_ixOwn, ev_lenOwn, ev_setIx, ev_okC, ev_wipe1, ev_wipe0, ev_rest1, ev_rest0, ev_call, ev_callN, ev_ofr, ev_ofn, ev_ofnN, ev_mut, ev_mdl, ev_mdi, ev_io, ev_addI, ev_subI, ev_negI, ev_cmpI, ev_eqI, ev_neI, ev_eqS, ev_neS, ev_intI, ev_intB, ev_absI, ev_lenL, ev_lenT, ev_ixL, ev_ixT, ev_at0, ev_at1, ev_at2, ev_i30, ev_i31, ev_i32, ev_pk1, ev_pk2, ev_pk3, ev_pk4, ev_pkw1, ev_pkw2, ev_pkv2, ev_isI, ev_isN, ev_isB, ev_inI, ev_inN, ev_inB, ev_listT, ev_listL, ev_tupT, ev_tupL, ev_fld, ev_insAt, ev_fldOwn, ev_fldG, ev_meth, ev_make, ev_callL, ev_noLI, ev_nilL, ev_nameL, ev_lendL, ev_conL, ev_augIx, ev_putAt, ev_iadd, ev_isub, ev_revT, ev_enum, ev_zip, ev_seqDL, ev_seqDT, ev_nilM, ev_vaM, ev_owM, ev_parM, ev_app, ev_par, ev_par3, ev_lam, ev_ra, ev_xfld, ev_isX, ev_isX_non, ev_hd_found, ev_hd_ret, ev_hd_expr, ev_hd_er, ev_outV, ev_outVn, ev_makeK, ev_band, ev_bxor, ev_bor, ev_aug, ev_trng1, ev_trng2, ev_revE, ev_idxF, ev_pop, R.bind_ok, R.out_ok, Option.bind_some, List.getElem?_cons_succ, List.getElem?_cons_zero, List.set_cons_succ, List.set_cons_zero, List.length_cons, List.length_nil, Nat.reduceAdd, Nat.reduceEqDiff, List.getD_cons_succ, List.getD_cons_zero, decide_true, decide_false, Bool.and_true, Bool.and_self, and_self, true_and, List.all_cons, List.all_nil, Bool.not_true, Bool.not_false, if_true, Bool.true_eq_false, Bool.false_eq_true, if_false, hc]
  rfl
theorem least (hx : x = .lst (ms.map D.int) ∨ x = .tup (ms.map D.int)) (h : Row ms) : F_least_parameter [x] = .ret (.tup [.int (bi (szs ms)), .int (mn (szs ms))]) (.l []) := by
  have ek : ∀ y z w : Sl, iterF (nameF 0) [.va x, y, z, w] = .ok (ms.map D.int) [.va x, y, z, w] := fun y z w => by rcases hx with rfl | rfl <;> rfl
  have hc : compN (rng1F (op2F addD (cF (.int 20)) (cF (.int 1)))) [2] (setA 2) yesT (opnF sumD (consF (lstF' (compN (iterF (nameF 0)) [3] (setA 3) yesT (callF F_size_by 2 (pickG 2 0 [] [0, 1]) (consF (nameF 3) (consF (nameF 2) nilF)) nilF))) nilF)) [.va x, .un, .un, .un]
      = .ok ((intsR 0 21).map fun p => D.int (tot ms p)) [.va x, .un, .un, .un] := by
    refine compN_src1 D.int (fun p => D.int (tot ms p)) (xs := intsR 0 21) ?_ (by rw [ints_len, sizeLine_eq]; decide) (y0 := .un) rfl Pl.un rfl fun p hp => ?_
    · rw [← rngD_ints]
      exact rng1E rfl rfl
    · obtain ⟨p0, p1⟩ := r21 hp
      have hi : compN (iterF (nameF 0)) [3] (setA 3) yesT (callF F_size_by 2 (pickG 2 0 [] [0, 1]) (consF (nameF 3) (consF (nameF 2) nilF)) nilF) [.va x, .un, .va (.int p), .un] = .ok ((ms.map fun n => sz n p).map D.int) [.va x, .un, .va (.int p), .un] := by
        rw [List.map_map]
        refine compN_src1 D.int (fun n => D.int (sz n p)) (xs := ms) (ek _ _ _) (by have := h.1; rw [sizeLine_eq]; omega) (y0 := .un) rfl Pl.un rfl fun n hn => ?_
        have e := size_by (h.2 n hn) p0
        simp only [ev_name, ev_c, ev_op2, ev_op1, ev_toR1, ev_toRL1, ev_nil, ev_cons, ev_opn, ev_opnN, ev_tup, ev_lst, ev_lstN, ev_new, ev_tst, ev_notT, ev_andT, ev_orT, ev_notF, ev_andF, ev_orF, ev_ifF, ev_yes, ev_iter, ev_rng1, ev_rng2, ev_rngW, ev_noP, ev_sl, ev_part, ev_next, ev_noG, ev_seq, ev_drop, ev_ret, ev_retN, ev_if, ev_asg, ev_setA, ev_nilA, ev_consA, ev_seqT, ev_seqL, ev_setN, ev_ok, ev_ioV, ev_ioU, ev_ioW, ev_owV, ev_owU, ev_own, ev_put, ev_ixOwn, ev_lenOwn, ev_setIx, ev_okC, ev_wipe1, ev_wipe0, ev_rest1, ev_rest0, ev_call, ev_callN, ev_ofr, ev_ofn, ev_ofnN, ev_mut, ev_mdl, ev_mdi, ev_io, ev_addI, ev_subI, ev_negI, ev_cmpI, ev_eqI, ev_neI, ev_eqS, ev_neS, ev_intI, ev_intB, ev_absI, ev_lenL, ev_lenT, ev_ixL, ev_ixT, ev_at0, ev_at1, ev_at2, ev_i30, ev_i31, ev_i32, ev_pk1, ev_pk2, ev_pk3, ev_pk4, ev_pkw1, ev_pkw2, ev_pkv2, ev_isI, ev_isN, ev_isB, ev_inI, ev_inN, ev_inB, ev_listT, ev_listL, ev_tupT, ev_tupL, ev_fld, ev_insAt, ev_fldOwn, ev_fldG, ev_meth, ev_make, ev_callL, ev_noLI, ev_nilL, ev_nameL, ev_lendL, ev_conL, ev_augIx, ev_putAt, ev_iadd, ev_isub, ev_revT, ev_enum, ev_zip, ev_seqDL, ev_seqDT, ev_nilM, ev_vaM, ev_owM, ev_parM, ev_app, ev_par, ev_par3, ev_lam, ev_ra, ev_xfld, ev_isX, ev_isX_non, ev_hd_found, ev_hd_ret, ev_hd_expr, ev_hd_er, ev_outV, ev_outVn, ev_makeK, ev_band, ev_bxor, ev_bor, ev_aug, ev_trng1, ev_trng2, ev_revE, ev_idxF, ev_pop, R.bind_ok, R.out_ok, Option.bind_some, List.getElem?_cons_succ, List.getElem?_cons_zero, List.set_cons_succ, List.set_cons_zero, List.length_cons, List.length_nil, Nat.reduceAdd, Nat.reduceEqDiff, List.getD_cons_succ, List.getD_cons_zero, decide_true, decide_false, Bool.and_true, Bool.and_self, and_self, true_and, List.all_cons, List.all_nil, Bool.not_true, Bool.not_false, if_true, Bool.true_eq_false, Bool.false_eq_true, if_false, e]
      have es := sumE (ms.map fun n => sz n p)
      simp only [ev_name, ev_c, ev_op2, ev_op1, ev_toR1, ev_toRL1, ev_nil, ev_cons, ev_opn, ev_opnN, ev_tup, ev_lst, ev_lstN, ev_new, ev_tst, ev_notT, ev_andT, ev_orT, ev_notF, ev_andF, ev_orF, ev_ifF, ev_yes, ev_iter, ev_rng1, ev_rng2, ev_rngW, ev_noP, ev_sl, ev_part, ev_next, ev_noG, ev_seq, ev_drop, ev_ret, ev_retN, ev_if, ev_asg, ev_setA, ev_nilA, ev_consA, ev_seqT, ev_seqL, ev_setN, ev_ok, ev_ioV, ev_ioU, ev_ioW, ev_owV, ev_owU, ev_own, ev_put, ev_ixOwn, ev_lenOwn, ev_setIx, ev_okC, ev_wipe1, ev_wipe0, ev_rest1, ev_rest0, ev_call, ev_callN, ev_ofr, ev_ofn, ev_ofnN, ev_mut, ev_mdl, ev_mdi, ev_io, ev_addI, ev_subI, ev_negI, ev_cmpI, ev_eqI, ev_neI, ev_eqS, ev_neS, ev_intI, ev_intB, ev_absI, ev_lenL, ev_lenT, ev_ixL, ev_ixT, ev_at0, ev_at1, ev_at2, ev_i30, ev_i31, ev_i32, ev_pk1, ev_pk2, ev_pk3, ev_pk4, ev_pkw1, ev_pkw2, ev_pkv2, ev_isI, ev_isN, ev_isB, ev_inI, ev_inN, ev_inB, ev_listT, ev_listL, ev_tupT, ev_tupL, ev_fld, ev_insAt, ev_fldOwn, ev_fldG, ev_meth, ev_make, ev_callL, ev_noLI, ev_nilL, ev_nameL, ev_lendL, ev_conL, ev_augIx, ev_putAt, ev_iadd, ev_isub, ev_revT, ev_enum, ev_zip, ev_seqDL, ev_seqDT, ev_nilM, ev_vaM, ev_owM, ev_parM, ev_app, ev_par, ev_par3, ev_lam, ev_ra, ev_xfld, ev_isX, ev_isX_non, ev_hd_found, ev_hd_ret, ev_hd_expr, ev_hd_er, ev_outV, ev_outVn, ev_makeK, ev_band, ev_bxor, ev_bor, ev_aug, ev_trng1, ev_trng2, ev_revE, ev_idxF, ev_pop, R.bind_ok, R.out_ok, Option.bind_some, List.getElem?_cons_succ, List.getElem?_cons_zero, List.set_cons_succ, List.set_cons_zero, List.length_cons, List.length_nil, Nat.reduceAdd, Nat.reduceEqDiff, List.getD_cons_succ, List.getD_cons_zero, decide_true, decide_false, Bool.and_true, Bool.and_self, and_self, true_and, List.all_cons, List.all_nil, Bool.not_true, Bool.not_false, if_true, Bool.true_eq_false, Bool.false_eq_true, if_false, hi, es]
      rfl
  have e : (intsR 0 21).map (fun p => D.int (tot ms p)) = (szs ms).map D.int := by
    unfold szs
    rw [List.map_map]
    rfl
  rw [e] at hc
  have e1 := minE (szs_ne ms)
  have e2 := idxE (szs_ne ms)
  have s2 : (2 ≤ sizeLine) = True := szA (by decide)
  show outF false (g_least_parameter [.va x, .un, .un, .un]) = _
  generalize (szs ms).map D.int = S at hc e1 e2
  simp only [g_least_parameter, ev_name, ev_c, ev_op2, ev_op1, ev_toR1, ev_toRL1, ev_nil, ev_cons, ev_opn, ev_opnN, ev_tup, ev_lst, ev_lstN, ev_new, ev_tst, ev_notT, ev_andT, ev_orT, ev_notF, ev_andF, ev_orF, ev_ifF, ev_yes, ev_iter, ev_rng1, ev_rng2, ev_rngW, ev_noP, ev_sl, ev_part, ev_next, ev_noG, ev_seq, ev_drop, ev_ret, ev_retN, ev_if, ev_asg, ev_setA, ev_nilA, ev_consA, ev_seqT, ev_seqL, ev_setN, ev_ok, ev_ioV, ev_ioU, ev_ioW, ev_owV, ev_owU, ev_own, ev_put, ev_ixOwn, ev_lenOwn, ev_setIx, ev_okC, ev_wipe1, ev_wipe0, ev_rest1, ev_rest0, ev_call, ev_callN, ev_ofr, ev_ofn, ev_ofnN, ev_mut, ev_mdl, ev_mdi, ev_io, ev_addI, ev_subI, ev_negI, ev_cmpI, ev_eqI, ev_neI, ev_eqS, ev_neS, ev_intI, ev_intB, ev_absI, ev_lenL, ev_lenT, ev_ixL, ev_ixT, ev_at0, ev_at1, ev_at2, ev_i30, ev_i31, ev_i32, ev_pk1, ev_pk2, ev_pk3, ev_pk4, ev_pkw1, ev_pkw2, ev_pkv2, ev_isI, ev_isN, ev_isB, ev_inI, ev_inN, ev_inB, ev_listT, ev_listL, ev_tupT, ev_tupL, ev_fld, ev_insAt, ev_fldOwn, ev_fldG, ev_meth, ev_make, ev_callL, ev_noLI, ev_nilL, ev_nameL, ev_lendL, ev_conL, ev_augIx, ev_putAt, ev_iadd, ev_isub, ev_revT, ev_enum, ev_zip, ev_seqDL, ev_seqDT, ev_nilM, ev_vaM, ev_owM, ev_parM, ev_app, ev_par, ev_par3, ev_lam, ev_ra, ev_xfld, ev_isX, ev_isX_non, ev_hd_found, ev_hd_ret, ev_hd_expr, ev_hd_er, ev_outV, ev_outVn, ev_makeK, ev_band, ev_bxor, ev_bor, ev_aug, ev_trng1, ev_trng2, ev_revE, ev_idxF, ev_pop, R.bind_ok, R.out_ok, Option.bind_some, List.getElem?_cons_succ, List.getElem?_cons_zero, List.set_cons_succ, List.set_cons_zero, List.length_cons, List.length_nil, Nat.reduceAdd, Nat.reduceEqDiff, List.getD_cons_succ, List.getD_cons_zero, decide_true, decide_false, Bool.and_true, Bool.and_self, and_self, true_and, List.all_cons, List.all_nil, Bool.not_true, Bool.not_false, if_true, Bool.true_eq_false, Bool.false_eq_true, if_false, hc, e1, e2, s2]
  rfl
theorem en_mem {ns : List Int} {d : D} (h : d ∈ enumD (ns.map D.int)) : ∃ i n : Int, d = .tup [.int i, .int n] ∧ n ∈ ns := by
  rw [enumD_map] at h
  obtain ⟨q, hq, rfl⟩ := List.mem_map.mp h
  exact ⟨_, _, rfl, List.fst_mem_of_mem_zipIdx hq⟩
abbrev sA : AS := seqA 2 (consA (setA 2) (consA (setA 3) nilA))
theorem need_row (hx : x = .lst (ms.map D.int) ∨ x = .tup (ms.map D.int)) (h : ∀ n ∈ ms, 0 ≤ n) : F_need_row [x, .int 0] = .ret .non (.l []) := by
  obtain ⟨s', e, _⟩ := forL_keep (a := sA) (G1 := g_need_row_b1) (I := fun s => ∃ p q, s = [.va x, .va (.int 0), p, q] ∧ Pl p ∧ Pl q) (enumD (ms.map D.int)) [.va x, .va (.int 0), .un, .un] ⟨.un, .un, rfl, Pl.un, Pl.un⟩ fun d hd s i => by
    obtain ⟨p, q, rfl, hp, hq⟩ := i
    obtain ⟨i, n, rfl, hn⟩ := en_mem hd
    have e0 : decide (n < 0) = false := decide_eq_false (by have := h n hn; omega)
    refine ⟨[.va x, .va (.int 0), .va (.int i), .va (.int n)], [.va x, .va (.int 0), .va (.int i), .va (.int n)], ?_, .inl ?_, _, _, rfl, Pl.va, Pl.va⟩
    · simp only [sA, ev_name, ev_c, ev_op2, ev_op1, ev_toR1, ev_toRL1, ev_nil, ev_cons, ev_opn, ev_opnN, ev_tup, ev_lst, ev_lstN, ev_new, ev_tst, ev_notT, ev_andT, ev_orT, ev_notF, ev_andF, ev_orF, ev_ifF, ev_yes, ev_iter, ev_rng1, ev_rng2, ev_rngW, ev_noP, ev_sl, ev_part, ev_next, ev_noG, ev_seq, ev_drop, ev_ret, ev_retN, ev_if, ev_asg, ev_setA, ev_nilA, ev_consA, ev_seqT, ev_seqL, ev_setN, ev_ok, ev_ioV, ev_ioU, ev_ioW, ev_owV, ev_owU, ev_own, ev_put, ev_ixOwn, ev_lenOwn, ev_setIx, ev_comp, ev_compL0, ev_compL1, ev_okC, ev_wipe1, ev_wipe0, ev_rest1, ev_rest0, ev_call, ev_callN, ev_ofr, ev_ofn, ev_ofnN, ev_mut, ev_mdl, ev_mdi, ev_io, ev_addI, ev_subI, ev_negI, ev_cmpI, ev_eqI, ev_neI, ev_eqS, ev_neS, ev_intI, ev_intB, ev_absI, ev_lenL, ev_lenT, ev_ixL, ev_ixT, ev_at0, ev_at1, ev_at2, ev_i30, ev_i31, ev_i32, ev_pk1, ev_pk2, ev_pk3, ev_pk4, ev_pkw1, ev_pkw2, ev_pkv2, ev_isI, ev_isN, ev_isB, ev_inI, ev_inN, ev_inB, ev_listT, ev_listL, ev_tupT, ev_tupL, ev_fld, ev_insAt, ev_fldOwn, ev_fldG, ev_meth, ev_make, ev_callL, ev_noLI, ev_nilL, ev_nameL, ev_lendL, ev_conL, ev_augIx, ev_putAt, ev_iadd, ev_isub, ev_revT, ev_enum, ev_zip, ev_seqDL, ev_seqDT, ev_nilM, ev_vaM, ev_owM, ev_parM, ev_app, ev_par, ev_par3, ev_lam, ev_ra, ev_xfld, ev_isX, ev_isX_non, ev_hd_found, ev_hd_ret, ev_hd_expr, ev_hd_er, ev_outV, ev_outVn, ev_makeK, ev_band, ev_bxor, ev_bor, ev_aug, ev_trng1, ev_trng2, ev_revE, ev_idxF, ev_pop, R.bind_ok, R.out_ok, Option.bind_some, List.getElem?_cons_succ, List.getElem?_cons_zero, List.set_cons_succ, List.set_cons_zero, List.length_cons, List.length_nil, Nat.reduceAdd, Nat.reduceEqDiff, List.getD_cons_succ, List.getD_cons_zero, decide_true, decide_false, Bool.and_true, Bool.and_self, and_self, true_and, List.all_cons, List.all_nil, Bool.not_true, Bool.not_false, if_true, Bool.true_eq_false, Bool.false_eq_true, if_false, hp.1, hq.1]
    · simp only [g_need_row_b1, ev_name, ev_c, ev_op2, ev_op1, ev_toR1, ev_toRL1, ev_nil, ev_cons, ev_opn, ev_opnN, ev_tup, ev_lst, ev_lstN, ev_new, ev_tst, ev_notT, ev_andT, ev_orT, ev_notF, ev_andF, ev_orF, ev_ifF, ev_yes, ev_iter, ev_rng1, ev_rng2, ev_rngW, ev_noP, ev_sl, ev_part, ev_next, ev_noG, ev_seq, ev_drop, ev_ret, ev_retN, ev_if, ev_asg, ev_setA, ev_nilA, ev_consA, ev_seqT, ev_seqL, ev_setN, ev_ok, ev_ioV, ev_ioU, ev_ioW, ev_owV, ev_owU, ev_own, ev_put, ev_ixOwn, ev_lenOwn, ev_setIx, ev_comp, ev_compL0, ev_compL1, ev_okC, ev_wipe1, ev_wipe0, ev_rest1, ev_rest0, ev_call, ev_callN, ev_ofr, ev_ofn, ev_ofnN, ev_mut, ev_mdl, ev_mdi, ev_io, ev_addI, ev_subI, ev_negI, ev_cmpI, ev_eqI, ev_neI, ev_eqS, ev_neS, ev_intI, ev_intB, ev_absI, ev_lenL, ev_lenT, ev_ixL, ev_ixT, ev_at0, ev_at1, ev_at2, ev_i30, ev_i31, ev_i32, ev_pk1, ev_pk2, ev_pk3, ev_pk4, ev_pkw1, ev_pkw2, ev_pkv2, ev_isI, ev_isN, ev_isB, ev_inI, ev_inN, ev_inB, ev_listT, ev_listL, ev_tupT, ev_tupL, ev_fld, ev_insAt, ev_fldOwn, ev_fldG, ev_meth, ev_make, ev_callL, ev_noLI, ev_nilL, ev_nameL, ev_lendL, ev_conL, ev_augIx, ev_putAt, ev_iadd, ev_isub, ev_revT, ev_enum, ev_zip, ev_seqDL, ev_seqDT, ev_nilM, ev_vaM, ev_owM, ev_parM, ev_app, ev_par, ev_par3, ev_lam, ev_ra, ev_xfld, ev_isX, ev_isX_non, ev_hd_found, ev_hd_ret, ev_hd_expr, ev_hd_er, ev_outV, ev_outVn, ev_makeK, ev_band, ev_bxor, ev_bor, ev_aug, ev_trng1, ev_trng2, ev_revE, ev_idxF, ev_pop, R.bind_ok, R.out_ok, Option.bind_some, List.getElem?_cons_succ, List.getElem?_cons_zero, List.set_cons_succ, List.set_cons_zero, List.length_cons, List.length_nil, Nat.reduceAdd, Nat.reduceEqDiff, List.getD_cons_succ, List.getD_cons_zero, decide_true, decide_false, Bool.and_true, Bool.and_self, and_self, true_and, List.all_cons, List.all_nil, Bool.not_true, Bool.not_false, if_true, Bool.true_eq_false, Bool.false_eq_true, if_false, integer, e0]
  have i0 : F_is_list [x] = .ret (.bl true) (.l []) := by rcases hx with rfl | rfl <;> rfl
  have e2 := forE (k := enumF (nameF 0)) (s := [.va x, .va (.int 0), .un, .un]) (by rcases hx with rfl | rfl <;> rfl) e
  show outF false (g_need_row [.va x, .va (.int 0), .un, .un]) = _
  simp only [g_need_row, ev_name, ev_c, ev_op2, ev_op1, ev_toR1, ev_toRL1, ev_nil, ev_cons, ev_opn, ev_opnN, ev_tup, ev_lst, ev_lstN, ev_new, ev_tst, ev_notT, ev_andT, ev_orT, ev_notF, ev_andF, ev_orF, ev_ifF, ev_yes, ev_iter, ev_rng1, ev_rng2, ev_rngW, ev_noP, ev_sl, ev_part, ev_next, ev_noG, ev_seq, ev_drop, ev_ret, ev_retN, ev_if, ev_asg, ev_setA, ev_nilA, ev_consA, ev_seqT, ev_seqL, ev_setN, ev_ok, ev_ioV, ev_ioU, ev_ioW, ev_owV, ev_owU, ev_own, ev_put, ev_ixOwn, ev_lenOwn, ev_setIx, ev_comp, ev_compL0, ev_compL1, ev_okC, ev_wipe1, ev_wipe0, ev_rest1, ev_rest0, ev_call, ev_callN, ev_ofr, ev_ofn, ev_ofnN, ev_mut, ev_mdl, ev_mdi, ev_io, ev_addI, ev_subI, ev_negI, ev_cmpI, ev_eqI, ev_neI, ev_eqS, ev_neS, ev_intI, ev_intB, ev_absI, ev_lenL, ev_lenT, ev_ixL, ev_ixT, ev_at0, ev_at1, ev_at2, ev_i30, ev_i31, ev_i32, ev_pk1, ev_pk2, ev_pk3, ev_pk4, ev_pkw1, ev_pkw2, ev_pkv2, ev_isI, ev_isN, ev_isB, ev_inI, ev_inN, ev_inB, ev_listT, ev_listL, ev_tupT, ev_tupL, ev_fld, ev_insAt, ev_fldOwn, ev_fldG, ev_meth, ev_make, ev_callL, ev_noLI, ev_nilL, ev_nameL, ev_lendL, ev_conL, ev_augIx, ev_putAt, ev_iadd, ev_isub, ev_revT, ev_enum, ev_zip, ev_seqDL, ev_seqDT, ev_nilM, ev_vaM, ev_owM, ev_parM, ev_app, ev_par, ev_par3, ev_lam, ev_ra, ev_xfld, ev_isX, ev_isX_non, ev_hd_found, ev_hd_ret, ev_hd_expr, ev_hd_er, ev_outV, ev_outVn, ev_makeK, ev_band, ev_bxor, ev_bor, ev_aug, ev_trng1, ev_trng2, ev_revE, ev_idxF, ev_pop, R.bind_ok, R.out_ok, Option.bind_some, List.getElem?_cons_succ, List.getElem?_cons_zero, List.set_cons_succ, List.set_cons_zero, List.length_cons, List.length_nil, Nat.reduceAdd, Nat.reduceEqDiff, List.getD_cons_succ, List.getD_cons_zero, decide_true, decide_false, Bool.and_true, Bool.and_self, and_self, true_and, List.all_cons, List.all_nil, Bool.not_true, Bool.not_false, if_true, Bool.true_eq_false, Bool.false_eq_true, if_false, i0, e2]
  rfl
theorem best (hx : x = .lst (ms.map D.int) ∨ x = .tup (ms.map D.int)) (h : Row ms) : F_best_parameter [x] = .ret (.int (bi (szs ms))) (.l []) := by
  have e1 := need_row hx fun n hn => (h.2 n hn).1
  have e2 := least hx h
  show outF false (g_best_parameter [.va x]) = _
  simp only [g_best_parameter, ev_name, ev_c, ev_op2, ev_op1, ev_toR1, ev_toRL1, ev_nil, ev_cons, ev_opn, ev_opnN, ev_tup, ev_lst, ev_lstN, ev_new, ev_tst, ev_notT, ev_andT, ev_orT, ev_notF, ev_andF, ev_orF, ev_ifF, ev_yes, ev_iter, ev_rng1, ev_rng2, ev_rngW, ev_noP, ev_sl, ev_part, ev_next, ev_noG, ev_seq, ev_drop, ev_ret, ev_retN, ev_if, ev_asg, ev_setA, ev_nilA, ev_consA, ev_seqT, ev_seqL, ev_setN, ev_ok, ev_ioV, ev_ioU, ev_ioW, ev_owV, ev_owU, ev_own, ev_put, ev_ixOwn, ev_lenOwn, ev_setIx, ev_comp, ev_compL0, ev_compL1, ev_okC, ev_wipe1, ev_wipe0, ev_rest1, ev_rest0, ev_call, ev_callN, ev_ofr, ev_ofn, ev_ofnN, ev_mut, ev_mdl, ev_mdi, ev_io, ev_addI, ev_subI, ev_negI, ev_cmpI, ev_eqI, ev_neI, ev_eqS, ev_neS, ev_intI, ev_intB, ev_absI, ev_lenL, ev_lenT, ev_ixL, ev_ixT, ev_at0, ev_at1, ev_at2, ev_i30, ev_i31, ev_i32, ev_pk1, ev_pk2, ev_pk3, ev_pk4, ev_pkw1, ev_pkw2, ev_pkv2, ev_isI, ev_isN, ev_isB, ev_inI, ev_inN, ev_inB, ev_listT, ev_listL, ev_tupT, ev_tupL, ev_fld, ev_insAt, ev_fldOwn, ev_fldG, ev_meth, ev_make, ev_callL, ev_noLI, ev_nilL, ev_nameL, ev_lendL, ev_conL, ev_augIx, ev_putAt, ev_iadd, ev_isub, ev_revT, ev_enum, ev_zip, ev_seqDL, ev_seqDT, ev_nilM, ev_vaM, ev_owM, ev_parM, ev_app, ev_par, ev_par3, ev_lam, ev_ra, ev_xfld, ev_isX, ev_isX_non, ev_hd_found, ev_hd_ret, ev_hd_expr, ev_hd_er, ev_outV, ev_outVn, ev_makeK, ev_band, ev_bxor, ev_bor, ev_aug, ev_trng1, ev_trng2, ev_revE, ev_idxF, ev_pop, R.bind_ok, R.out_ok, Option.bind_some, List.getElem?_cons_succ, List.getElem?_cons_zero, List.set_cons_succ, List.set_cons_zero, List.length_cons, List.length_nil, Nat.reduceAdd, Nat.reduceEqDiff, List.getD_cons_succ, List.getD_cons_zero, decide_true, decide_false, Bool.and_true, Bool.and_self, and_self, true_and, List.all_cons, List.all_nil, Bool.not_true, Bool.not_false, if_true, Bool.true_eq_false, Bool.false_eq_true, if_false, e1, e2]
  rfl
end
end Fx

set_option Elab.async false
set_option linter.all false
set_option maxRecDepth 100000
set_option exponentiation.threshold 3000
namespace Fx
variable [Tbl]
open PySem L2 PyProof.Rows
/-! ### the rows of the law -/
abbrev R7 (P : List D) (f m w b : Int) (x5 x6 : Sl) : List Sl := [.io (.l P), .va (.int f), .va (.int m), .va (.int w), .va (.int b), x5, x6]
theorem rows {b : Nat} {P : List D} {m f w ba M : Int} {k : F D} {g : Int → Int} (hP : Pen b P) (hb : b < 2 ^ 18) (m0 : 0 ≤ m) (m1 : m < 12) (hM : 0 < M) (hM2 : M < 2 ^ 140)
    (hk : ∀ {P P' : List D} {d : D} {v : Int}, F__law_draw [.lst P, .int M] = .ret (.int v) (.l P') → k (R7 P f m w ba .un (.va d)) = .ok (.int (g v)) (R7 P' f m w ba .un (.va d))) (hg : ∀ v, 0 ≤ v → v < M → Nm (g v)) :
    ∃ (ms : List Int) (P' : List D), compN (rng1F (nameF 2)) [6] (setA 6) yesT k (R7 P f m w ba .un .un) = .ok (ms.map D.int) (R7 P' f m w ba .un .un) ∧ ms.length ≤ 12 ∧ (∀ n ∈ ms, Nm n) ∧ Pen (b + 12) P' := by
  obtain ⟨ys, s', e, hl, hY, P', y6, rfl, hP', h2⟩ := compL_run (vs := [6]) (a := setA 6) (u := yesT) (f := k) (Y := fun _ d => ∃ n, d = .int n ∧ Nm n)
    (I := fun j s' => ∃ P' y6, s' = R7 P' f m w ba .un y6 ∧ Pen (b + j) P' ∧ Pl y6) (rngD 0 m) 0 (R7 P f m w ba .un .un) ⟨P, _, rfl, hP, Pl.un⟩ fun j d s e i => by
      obtain ⟨P1, y6, rfl, h1, h2⟩ := i
      have hj := (List.getElem?_eq_some_iff.mp e).1
      rw [rngD_length] at hj
      obtain ⟨v, P2, e2, v0, v1, h3⟩ := draw (m := M) h1 (by omega) hM hM2
      refine ⟨R7 P1 f m w ba .un (.va d), _, R7 P2 f m w ba .un (.va d), .int (g v), ?_, rfl, hk e2, ⟨_, rfl, hg v v0 v1⟩, P2, _, rfl, h3.mono (by omega), Pl.va⟩
      simp only [R7, ev_name, ev_c, ev_op2, ev_op1, ev_toR1, ev_toRL1, ev_nil, ev_cons, ev_opn, ev_opnN, ev_tup, ev_lst, ev_lstN, ev_new, ev_tst, ev_notT, ev_andT, ev_orT, ev_notF, ev_andF, ev_orF, ev_ifF, ev_yes, ev_iter, ev_rng1, ev_rng2, ev_rngW, ev_noP, ev_sl, ev_part, ev_next, ev_noG, ev_seq, ev_drop, ev_ret, ev_retN, ev_if, ev_asg, ev_setA, ev_nilA, ev_consA, ev_seqT, ev_seqL, ev_setN, ev_ok, ev_ioV, ev_ioU, ev_ioW, ev_owV, ev_owU, ev_own, ev_put, ev_ixOwn, ev_lenOwn, ev_setIx, ev_comp, ev_compL0, ev_compL1, ev_okC, ev_wipe1, ev_wipe0, ev_rest1, ev_rest0, ev_call, ev_callN, ev_ofr, ev_ofn, ev_ofnN, ev_mut, ev_mdl, ev_mdi, ev_io, ev_addI, ev_subI, ev_negI, ev_cmpI, ev_eqI, ev_neI, ev_eqS, ev_neS, ev_intI, ev_intB, ev_absI, ev_lenL, ev_lenT, ev_ixL, ev_ixT, ev_at0, ev_at1, ev_at2, ev_i30, ev_i31, ev_i32, ev_pk1, ev_pk2, ev_pk3, ev_pk4, ev_pkw1, ev_pkw2, ev_pkv2, ev_isI, ev_isN, ev_isB, ev_inI, ev_inN, ev_inB, ev_listT, ev_listL, ev_tupT, ev_tupL, ev_fld, ev_insAt, ev_fldOwn, ev_fldG, ev_meth, ev_make, ev_callL, ev_noLI, ev_nilL, ev_nameL, ev_lendL, ev_conL, ev_augIx, ev_putAt, ev_iadd, ev_isub, ev_revT, ev_enum, ev_zip, ev_seqDL, ev_seqDT, ev_nilM, ev_vaM, ev_owM, ev_parM, ev_app, ev_par, ev_par3, ev_lam, ev_ra, ev_xfld, ev_isX, ev_isX_non, ev_hd_found, ev_hd_ret, ev_hd_expr, ev_hd_er, ev_outV, ev_outVn, ev_makeK, ev_band, ev_bxor, ev_bor, ev_aug, ev_trng1, ev_trng2, ev_revE, ev_idxF, ev_pop, R.bind_ok, R.out_ok, Option.bind_some, List.getElem?_cons_succ, List.getElem?_cons_zero, List.set_cons_succ, List.set_cons_zero, List.length_cons, List.length_nil, Nat.reduceAdd, Nat.reduceEqDiff, List.getD_cons_succ, List.getD_cons_zero, decide_true, decide_false, Bool.and_true, Bool.and_self, and_self, true_and, List.all_cons, List.all_nil, Bool.not_true, Bool.not_false, if_true, Bool.true_eq_false, Bool.false_eq_true, if_false, h2.1]
  obtain ⟨ms, rfl, hms⟩ := to_ints ys fun j y e => hY j y e
  rw [rngD_length, List.length_map] at hl
  rw [rngD_length] at hP'
  refine ⟨ms, P', ?_, by omega, hms, hP'.mono (by omega)⟩
  have hl2 : (rngD 0 m).length < sizeLine := by
    rw [rngD_length, sizeLine_eq]
    omega
  have ek := rng1E (f := nameF 2) (s := R7 P f m w ba .un .un) rfl (sm_of m0 (by omega))
  rw [ev_comp, ek, R.bind_ok, if_pos ⟨hl2, rfl⟩, e]
  rfl
theorem far_of {d : D} (h : d ∈ [D.int 1, D.int 3, D.int 20, D.int 200, D.int (10 ^ 5), D.int (10 ^ 9), D.int (10 ^ 39)]) : ∃ f, d = .int f ∧ 0 < f ∧ f ≤ 10 ^ 39 := by
  simp only [List.mem_cons, List.not_mem_nil, or_false] at h
  rcases h with rfl | rfl | rfl | rfl | rfl | rfl | rfl <;> exact ⟨_, rfl, by omega, by omega⟩
theorem more_of {d : D} (h : d ∈ [D.int (10 ^ 39), D.int (2 ^ 24), D.int (10 ^ 7), D.int 15, D.int 16, D.int 17]) : ∃ f, d = .int f ∧ Nm f := by
  unfold Nm
  simp only [List.mem_cons, List.not_mem_nil, or_false] at h
  rcases h with rfl | rfl | rfl | rfl | rfl | rfl <;> exact ⟨_, rfl, by omega, by omega⟩
theorem row {b : Nat} {P : List D} (h : Pen b P) (hb : b < 2 ^ 17) : ∃ (ms : List Int) (P' : List D), F__law_row [.lst P] = .ret (.lst (ms.map D.int)) (.l P') ∧ ms.length ≤ 20 ∧ (∀ n ∈ ms, Nm n) ∧ Pen (b + 20) P' := by
  obtain ⟨d1, P1, e1, m1, h1⟩ := one (xs := [.int 1, .int 3, .int 20, .int 200, .int (10 ^ 5), .int (10 ^ 9), .int (10 ^ 39)]) h (by omega) (by simp) (by simp)
  obtain ⟨f, rfl, f0, f1⟩ := far_of m1
  obtain ⟨m, P2, e2, m0, m1', h2⟩ := draw (m := 12) h1 (by omega) (by decide) (by decide)
  obtain ⟨w, P3, e3, w0, w1, h3⟩ := draw (m := 4) h2 (by omega) (by decide) (by decide)
  obtain ⟨ba, P4, e4, b0, b1, h4⟩ := draw (m := f) h3 (by omega) f0 (by omega)
  have s7 : (7 ≤ sizeLine) = True := szA (by decide)
  have s6 : (6 ≤ sizeLine) = True := szA (by decide)
  have s2 : (2 ≤ sizeLine) = True := szA (by decide)
  have s1 : (1 ≤ sizeLine) = True := szA (by decide)
  have q5 : powD (.int 10) (.int 5) = some (.int (10 ^ 5)) := rfl
  have q9 : powD (.int 10) (.int 9) = some (.int (10 ^ 9)) := rfl
  have q39 : powD (.int 10) (.int 39) = some (.int (10 ^ 39)) := rfl
  have q24 : powD (.int 2) (.int 24) = some (.int (2 ^ 24)) := rfl
  have q7 : powD (.int 10) (.int 7) = some (.int (10 ^ 7)) := rfl
  obtain ⟨ms1, P5, c1, l1, n1, h5⟩ := rows (w := w) (M := f) (k := callIoF F__law_draw 2 0 (consF (nameF 1) nilF)) (g := fun v => v) (f := f) (ba := ba) h4 (by omega) m0 m1' f0 (by omega) (fun {P P' d v} e => by simp only [R7, ev_name, ev_c, ev_op2, ev_op1, ev_toR1, ev_toRL1, ev_nil, ev_cons, ev_opn, ev_opnN, ev_tup, ev_lst, ev_lstN, ev_new, ev_tst, ev_notT, ev_andT, ev_orT, ev_notF, ev_andF, ev_orF, ev_ifF, ev_yes, ev_iter, ev_rng1, ev_rng2, ev_rngW, ev_noP, ev_sl, ev_part, ev_next, ev_noG, ev_seq, ev_drop, ev_ret, ev_retN, ev_if, ev_asg, ev_setA, ev_nilA, ev_consA, ev_seqT, ev_seqL, ev_setN, ev_ok, ev_ioV, ev_ioU, ev_ioW, ev_owV, ev_owU, ev_own, ev_put, ev_ixOwn, ev_lenOwn, ev_setIx, ev_comp, ev_compL0, ev_compL1, ev_okC, ev_wipe1, ev_wipe0, ev_rest1, ev_rest0, ev_call, ev_callN, ev_ofr, ev_ofn, ev_ofnN, ev_mut, ev_mdl, ev_mdi, ev_io, ev_addI, ev_subI, ev_negI, ev_cmpI, ev_eqI, ev_neI, ev_eqS, ev_neS, ev_intI, ev_intB, ev_absI, ev_lenL, ev_lenT, ev_ixL, ev_ixT, ev_at0, ev_at1, ev_at2, ev_i30, ev_i31, ev_i32, ev_pk1, ev_pk2, ev_pk3, ev_pk4, ev_pkw1, ev_pkw2, ev_pkv2, ev_isI, ev_isN, ev_isB, ev_inI, ev_inN, ev_inB, ev_listT, ev_listL, ev_tupT, ev_tupL, ev_fld, ev_insAt, ev_fldOwn, ev_fldG, ev_meth, ev_make, ev_callL, ev_noLI, ev_nilL, ev_nameL, ev_lendL, ev_conL, ev_augIx, ev_putAt, ev_iadd, ev_isub, ev_revT, ev_enum, ev_zip, ev_seqDL, ev_seqDT, ev_nilM, ev_vaM, ev_owM, ev_parM, ev_app, ev_par, ev_par3, ev_lam, ev_ra, ev_xfld, ev_isX, ev_isX_non, ev_hd_found, ev_hd_ret, ev_hd_expr, ev_hd_er, ev_outV, ev_outVn, ev_makeK, ev_band, ev_bxor, ev_bor, ev_aug, ev_trng1, ev_trng2, ev_revE, ev_idxF, ev_pop, R.bind_ok, R.out_ok, Option.bind_some, List.getElem?_cons_succ, List.getElem?_cons_zero, List.set_cons_succ, List.set_cons_zero, List.length_cons, List.length_nil, Nat.reduceAdd, Nat.reduceEqDiff, List.getD_cons_succ, List.getD_cons_zero, decide_true, decide_false, Bool.and_true, Bool.and_self, and_self, true_and, List.all_cons, List.all_nil, Bool.not_true, Bool.not_false, if_true, Bool.true_eq_false, Bool.false_eq_true, if_false, e]) (fun v v0 v1 => ⟨v0, by omega⟩)
  obtain ⟨ms2, P6, c2, l2, n2, h6⟩ := rows (w := w) (M := 4) (k := op2F addD (nameF 4) (callIoF F__law_draw 2 0 (consF (cF (.int 4)) nilF))) (g := fun v => ba + v) (f := f) (ba := ba) h4 (by omega) m0 m1' (by decide) (by decide) (fun {P P' d v} e => by simp only [R7, ev_name, ev_c, ev_op2, ev_op1, ev_toR1, ev_toRL1, ev_nil, ev_cons, ev_opn, ev_opnN, ev_tup, ev_lst, ev_lstN, ev_new, ev_tst, ev_notT, ev_andT, ev_orT, ev_notF, ev_andF, ev_orF, ev_ifF, ev_yes, ev_iter, ev_rng1, ev_rng2, ev_rngW, ev_noP, ev_sl, ev_part, ev_next, ev_noG, ev_seq, ev_drop, ev_ret, ev_retN, ev_if, ev_asg, ev_setA, ev_nilA, ev_consA, ev_seqT, ev_seqL, ev_setN, ev_ok, ev_ioV, ev_ioU, ev_ioW, ev_owV, ev_owU, ev_own, ev_put, ev_ixOwn, ev_lenOwn, ev_setIx, ev_comp, ev_compL0, ev_compL1, ev_okC, ev_wipe1, ev_wipe0, ev_rest1, ev_rest0, ev_call, ev_callN, ev_ofr, ev_ofn, ev_ofnN, ev_mut, ev_mdl, ev_mdi, ev_io, ev_addI, ev_subI, ev_negI, ev_cmpI, ev_eqI, ev_neI, ev_eqS, ev_neS, ev_intI, ev_intB, ev_absI, ev_lenL, ev_lenT, ev_ixL, ev_ixT, ev_at0, ev_at1, ev_at2, ev_i30, ev_i31, ev_i32, ev_pk1, ev_pk2, ev_pk3, ev_pk4, ev_pkw1, ev_pkw2, ev_pkv2, ev_isI, ev_isN, ev_isB, ev_inI, ev_inN, ev_inB, ev_listT, ev_listL, ev_tupT, ev_tupL, ev_fld, ev_insAt, ev_fldOwn, ev_fldG, ev_meth, ev_make, ev_callL, ev_noLI, ev_nilL, ev_nameL, ev_lendL, ev_conL, ev_augIx, ev_putAt, ev_iadd, ev_isub, ev_revT, ev_enum, ev_zip, ev_seqDL, ev_seqDT, ev_nilM, ev_vaM, ev_owM, ev_parM, ev_app, ev_par, ev_par3, ev_lam, ev_ra, ev_xfld, ev_isX, ev_isX_non, ev_hd_found, ev_hd_ret, ev_hd_expr, ev_hd_er, ev_outV, ev_outVn, ev_makeK, ev_band, ev_bxor, ev_bor, ev_aug, ev_trng1, ev_trng2, ev_revE, ev_idxF, ev_pop, R.bind_ok, R.out_ok, Option.bind_some, List.getElem?_cons_succ, List.getElem?_cons_zero, List.set_cons_succ, List.set_cons_zero, List.length_cons, List.length_nil, Nat.reduceAdd, Nat.reduceEqDiff, List.getD_cons_succ, List.getD_cons_zero, decide_true, decide_false, Bool.and_true, Bool.and_self, and_self, true_and, List.all_cons, List.all_nil, Bool.not_true, Bool.not_false, if_true, Bool.true_eq_false, Bool.false_eq_true, if_false, e]) (fun v v0 v1 => ⟨by omega, by omega⟩)
  cases hw0 : decide (w = 0) with
  | true =>
    have er := rep_v (v := .int ba) m0 (by omega)
    have el : (List.replicate m.toNat (D.int ba)) = (List.replicate m.toNat ba).map D.int := by rw [List.map_replicate]
    rw [el] at er
    refine ⟨List.replicate m.toNat ba, P4, ?_, by rw [List.length_replicate]; omega, fun n hn => ?_, h4.mono (by omega)⟩
    · show outF true (g__law_row [.io (.l P), .un, .un, .un, .un, .un, .un]) = _
      unfold g__law_row
      refine EndR.out (EndR.seq (s1 := [.io (.l P2), .va (.int f), .va (.int m), .un, .un, .un, .un]) ?_ ?_)
      · simp only [ev_name, ev_c, ev_op2, ev_op1, ev_toR1, ev_toRL1, ev_nil, ev_cons, ev_opn, ev_opnN, ev_tup, ev_lst, ev_lstN, ev_new, ev_tst, ev_notT, ev_andT, ev_orT, ev_notF, ev_andF, ev_orF, ev_ifF, ev_yes, ev_iter, ev_rng1, ev_rng2, ev_rngW, ev_noP, ev_sl, ev_part, ev_next, ev_noG, ev_seq, ev_drop, ev_ret, ev_retN, ev_if, ev_asg, ev_setA, ev_nilA, ev_consA, ev_seqT, ev_seqL, ev_setN, ev_ok, ev_ioV, ev_ioU, ev_ioW, ev_owV, ev_owU, ev_own, ev_put, ev_ixOwn, ev_lenOwn, ev_setIx, ev_comp, ev_compL0, ev_compL1, ev_okC, ev_wipe1, ev_wipe0, ev_rest1, ev_rest0, ev_call, ev_callN, ev_ofr, ev_ofn, ev_ofnN, ev_mut, ev_mdl, ev_mdi, ev_io, ev_addI, ev_subI, ev_negI, ev_cmpI, ev_eqI, ev_neI, ev_eqS, ev_neS, ev_intI, ev_intB, ev_absI, ev_lenL, ev_lenT, ev_ixL, ev_ixT, ev_at0, ev_at1, ev_at2, ev_i30, ev_i31, ev_i32, ev_pk1, ev_pk2, ev_pk3, ev_pk4, ev_pkw1, ev_pkw2, ev_pkv2, ev_isI, ev_isN, ev_isB, ev_inI, ev_inN, ev_inB, ev_listT, ev_listL, ev_tupT, ev_tupL, ev_fld, ev_insAt, ev_fldOwn, ev_fldG, ev_meth, ev_make, ev_callL, ev_noLI, ev_nilL, ev_nameL, ev_lendL, ev_conL, ev_augIx, ev_putAt, ev_iadd, ev_isub, ev_revT, ev_enum, ev_zip, ev_seqDL, ev_seqDT, ev_nilM, ev_vaM, ev_owM, ev_parM, ev_app, ev_par, ev_par3, ev_lam, ev_ra, ev_xfld, ev_isX, ev_isX_non, ev_hd_found, ev_hd_ret, ev_hd_expr, ev_hd_er, ev_outV, ev_outVn, ev_makeK, ev_band, ev_bxor, ev_bor, ev_aug, ev_trng1, ev_trng2, ev_revE, ev_idxF, ev_pop, R.bind_ok, R.out_ok, Option.bind_some, List.getElem?_cons_succ, List.getElem?_cons_zero, List.set_cons_succ, List.set_cons_zero, List.length_cons, List.length_nil, Nat.reduceAdd, Nat.reduceEqDiff, List.getD_cons_succ, List.getD_cons_zero, decide_true, decide_false, Bool.and_true, Bool.and_self, and_self, true_and, List.all_cons, List.all_nil, Bool.not_true, Bool.not_false, if_true, Bool.true_eq_false, Bool.false_eq_true, if_false, q5, q9, q39, e1, e2, s7, s2]
      refine EndR.seq (s1 := R7 P4 f m w ba .un .un) ?_ ?_
      · simp only [R7, ev_name, ev_c, ev_op2, ev_op1, ev_toR1, ev_toRL1, ev_nil, ev_cons, ev_opn, ev_opnN, ev_tup, ev_lst, ev_lstN, ev_new, ev_tst, ev_notT, ev_andT, ev_orT, ev_notF, ev_andF, ev_orF, ev_ifF, ev_yes, ev_iter, ev_rng1, ev_rng2, ev_rngW, ev_noP, ev_sl, ev_part, ev_next, ev_noG, ev_seq, ev_drop, ev_ret, ev_retN, ev_if, ev_asg, ev_setA, ev_nilA, ev_consA, ev_seqT, ev_seqL, ev_setN, ev_ok, ev_ioV, ev_ioU, ev_ioW, ev_owV, ev_owU, ev_own, ev_put, ev_ixOwn, ev_lenOwn, ev_setIx, ev_comp, ev_compL0, ev_compL1, ev_okC, ev_wipe1, ev_wipe0, ev_rest1, ev_rest0, ev_call, ev_callN, ev_ofr, ev_ofn, ev_ofnN, ev_mut, ev_mdl, ev_mdi, ev_io, ev_addI, ev_subI, ev_negI, ev_cmpI, ev_eqI, ev_neI, ev_eqS, ev_neS, ev_intI, ev_intB, ev_absI, ev_lenL, ev_lenT, ev_ixL, ev_ixT, ev_at0, ev_at1, ev_at2, ev_i30, ev_i31, ev_i32, ev_pk1, ev_pk2, ev_pk3, ev_pk4, ev_pkw1, ev_pkw2, ev_pkv2, ev_isI, ev_isN, ev_isB, ev_inI, ev_inN, ev_inB, ev_listT, ev_listL, ev_tupT, ev_tupL, ev_fld, ev_insAt, ev_fldOwn, ev_fldG, ev_meth, ev_make, ev_callL, ev_noLI, ev_nilL, ev_nameL, ev_lendL, ev_conL, ev_augIx, ev_putAt, ev_iadd, ev_isub, ev_revT, ev_enum, ev_zip, ev_seqDL, ev_seqDT, ev_nilM, ev_vaM, ev_owM, ev_parM, ev_app, ev_par, ev_par3, ev_lam, ev_ra, ev_xfld, ev_isX, ev_isX_non, ev_hd_found, ev_hd_ret, ev_hd_expr, ev_hd_er, ev_outV, ev_outVn, ev_makeK, ev_band, ev_bxor, ev_bor, ev_aug, ev_trng1, ev_trng2, ev_revE, ev_idxF, ev_pop, R.bind_ok, R.out_ok, Option.bind_some, List.getElem?_cons_succ, List.getElem?_cons_zero, List.set_cons_succ, List.set_cons_zero, List.length_cons, List.length_nil, Nat.reduceAdd, Nat.reduceEqDiff, List.getD_cons_succ, List.getD_cons_zero, decide_true, decide_false, Bool.and_true, Bool.and_self, and_self, true_and, List.all_cons, List.all_nil, Bool.not_true, Bool.not_false, if_true, Bool.true_eq_false, Bool.false_eq_true, if_false, e3, e4, s2]
      simp only [R7, ev_name, ev_c, ev_op2, ev_op1, ev_toR1, ev_toRL1, ev_nil, ev_cons, ev_opn, ev_opnN, ev_tup, ev_lst, ev_lstN, ev_new, ev_tst, ev_notT, ev_andT, ev_orT, ev_notF, ev_andF, ev_orF, ev_ifF, ev_yes, ev_iter, ev_rng1, ev_rng2, ev_rngW, ev_noP, ev_sl, ev_part, ev_next, ev_noG, ev_seq, ev_drop, ev_ret, ev_retN, ev_if, ev_asg, ev_setA, ev_nilA, ev_consA, ev_seqT, ev_seqL, ev_setN, ev_ok, ev_ioV, ev_ioU, ev_ioW, ev_owV, ev_owU, ev_own, ev_put, ev_ixOwn, ev_lenOwn, ev_setIx, ev_comp, ev_compL0, ev_compL1, ev_okC, ev_wipe1, ev_wipe0, ev_rest1, ev_rest0, ev_call, ev_callN, ev_ofr, ev_ofn, ev_ofnN, ev_mut, ev_mdl, ev_mdi, ev_io, ev_addI, ev_subI, ev_negI, ev_cmpI, ev_eqI, ev_neI, ev_eqS, ev_neS, ev_intI, ev_intB, ev_absI, ev_lenL, ev_lenT, ev_ixL, ev_ixT, ev_at0, ev_at1, ev_at2, ev_i30, ev_i31, ev_i32, ev_pk1, ev_pk2, ev_pk3, ev_pk4, ev_pkw1, ev_pkw2, ev_pkv2, ev_isI, ev_isN, ev_isB, ev_inI, ev_inN, ev_inB, ev_listT, ev_listL, ev_tupT, ev_tupL, ev_fld, ev_insAt, ev_fldOwn, ev_fldG, ev_meth, ev_make, ev_callL, ev_noLI, ev_nilL, ev_nameL, ev_lendL, ev_conL, ev_augIx, ev_putAt, ev_iadd, ev_isub, ev_revT, ev_enum, ev_zip, ev_seqDL, ev_seqDT, ev_nilM, ev_vaM, ev_owM, ev_parM, ev_app, ev_par, ev_par3, ev_lam, ev_ra, ev_xfld, ev_isX, ev_isX_non, ev_hd_found, ev_hd_ret, ev_hd_expr, ev_hd_er, ev_outV, ev_outVn, ev_makeK, ev_band, ev_bxor, ev_bor, ev_aug, ev_trng1, ev_trng2, ev_revE, ev_idxF, ev_pop, R.bind_ok, R.out_ok, Option.bind_some, List.getElem?_cons_succ, List.getElem?_cons_zero, List.set_cons_succ, List.set_cons_zero, List.length_cons, List.length_nil, Nat.reduceAdd, Nat.reduceEqDiff, List.getD_cons_succ, List.getD_cons_zero, decide_true, decide_false, Bool.and_true, Bool.and_self, and_self, true_and, List.all_cons, List.all_nil, Bool.not_true, Bool.not_false, if_true, Bool.true_eq_false, Bool.false_eq_true, if_false, hw0, s1, er]
      exact ⟨_, rfl, rfl⟩
    · rw [List.eq_of_mem_replicate hn]
      exact ⟨b0, by omega⟩
  | false =>
    have hw := of_decide_eq_false hw0
    have hd : ∃ (ms : List Int) (P7 : List D), (∀ s', seqG (ifG (tstF (op2F eqD (nameF 3) (cF (.int 0)))) (retG (op2F mulD (lstF (consF (nameF 4) nilF)) (nameF 2))) nextG) (seqG (asgG (ifF (tstF (op2F eqD (nameF 3) (cF (.int 1)))) (lstF' (compN (rng1F (nameF 2)) [6] (setA 6) yesT (callIoF F__law_draw 2 0 (consF (nameF 1) nilF)))) (lstF' (compN (rng1F (nameF 2)) [6] (setA 6) yesT (op2F addD (nameF 4) (callIoF F__law_draw 2 0 (consF (cF (.int 4)) nilF)))))) (setA 5)) s') (R7 P4 f m w ba .un .un) = s' (R7 P7 f m w ba (.va (.lst (ms.map D.int))) .un)) ∧ ms.length ≤ 12 ∧ (∀ n ∈ ms, Nm n) ∧ Pen (b + 16) P7 := by
      cases hw1 : decide (w = 1) with
      | true =>
        refine ⟨ms1, P5, fun s' => ?_, l1, n1, h5.mono (by omega)⟩
        simp only [R7] at c1
        simp only [R7, ev_name, ev_c, ev_op2, ev_op1, ev_toR1, ev_toRL1, ev_nil, ev_cons, ev_opn, ev_opnN, ev_tup, ev_lst, ev_lstN, ev_new, ev_tst, ev_notT, ev_andT, ev_orT, ev_notF, ev_andF, ev_orF, ev_ifF, ev_yes, ev_iter, ev_rng1, ev_rng2, ev_rngW, ev_noP, ev_sl, ev_part, ev_next, ev_noG, ev_seq, ev_drop, ev_ret, ev_retN, ev_if, ev_asg, ev_setA, ev_nilA, ev_consA, ev_seqT, ev_seqL, ev_setN, ev_ok, ev_ioV, ev_ioU, ev_ioW, ev_owV, ev_owU, ev_own, ev_put, ev_ixOwn, ev_lenOwn, ev_setIx, ev_okC, ev_wipe1, ev_wipe0, ev_rest1, ev_rest0, ev_call, ev_callN, ev_ofr, ev_ofn, ev_ofnN, ev_mut, ev_mdl, ev_mdi, ev_io, ev_addI, ev_subI, ev_negI, ev_cmpI, ev_eqI, ev_neI, ev_eqS, ev_neS, ev_intI, ev_intB, ev_absI, ev_lenL, ev_lenT, ev_ixL, ev_ixT, ev_at0, ev_at1, ev_at2, ev_i30, ev_i31, ev_i32, ev_pk1, ev_pk2, ev_pk3, ev_pk4, ev_pkw1, ev_pkw2, ev_pkv2, ev_isI, ev_isN, ev_isB, ev_inI, ev_inN, ev_inB, ev_listT, ev_listL, ev_tupT, ev_tupL, ev_fld, ev_insAt, ev_fldOwn, ev_fldG, ev_meth, ev_make, ev_callL, ev_noLI, ev_nilL, ev_nameL, ev_lendL, ev_conL, ev_augIx, ev_putAt, ev_iadd, ev_isub, ev_revT, ev_enum, ev_zip, ev_seqDL, ev_seqDT, ev_nilM, ev_vaM, ev_owM, ev_parM, ev_app, ev_par, ev_par3, ev_lam, ev_ra, ev_xfld, ev_isX, ev_isX_non, ev_hd_found, ev_hd_ret, ev_hd_expr, ev_hd_er, ev_outV, ev_outVn, ev_makeK, ev_band, ev_bxor, ev_bor, ev_aug, ev_trng1, ev_trng2, ev_revE, ev_idxF, ev_pop, R.bind_ok, R.out_ok, Option.bind_some, List.getElem?_cons_succ, List.getElem?_cons_zero, List.set_cons_succ, List.set_cons_zero, List.length_cons, List.length_nil, Nat.reduceAdd, Nat.reduceEqDiff, List.getD_cons_succ, List.getD_cons_zero, decide_true, decide_false, Bool.and_true, Bool.and_self, and_self, true_and, List.all_cons, List.all_nil, Bool.not_true, Bool.not_false, if_true, Bool.true_eq_false, Bool.false_eq_true, if_false, hw0, hw1, c1]
      | false =>
        refine ⟨ms2, P6, fun s' => ?_, l2, n2, h6.mono (by omega)⟩
        simp only [R7] at c2
        simp only [R7, ev_name, ev_c, ev_op2, ev_op1, ev_toR1, ev_toRL1, ev_nil, ev_cons, ev_opn, ev_opnN, ev_tup, ev_lst, ev_lstN, ev_new, ev_tst, ev_notT, ev_andT, ev_orT, ev_notF, ev_andF, ev_orF, ev_ifF, ev_yes, ev_iter, ev_rng1, ev_rng2, ev_rngW, ev_noP, ev_sl, ev_part, ev_next, ev_noG, ev_seq, ev_drop, ev_ret, ev_retN, ev_if, ev_asg, ev_setA, ev_nilA, ev_consA, ev_seqT, ev_seqL, ev_setN, ev_ok, ev_ioV, ev_ioU, ev_ioW, ev_owV, ev_owU, ev_own, ev_put, ev_ixOwn, ev_lenOwn, ev_setIx, ev_okC, ev_wipe1, ev_wipe0, ev_rest1, ev_rest0, ev_call, ev_callN, ev_ofr, ev_ofn, ev_ofnN, ev_mut, ev_mdl, ev_mdi, ev_io, ev_addI, ev_subI, ev_negI, ev_cmpI, ev_eqI, ev_neI, ev_eqS, ev_neS, ev_intI, ev_intB, ev_absI, ev_lenL, ev_lenT, ev_ixL, ev_ixT, ev_at0, ev_at1, ev_at2, ev_i30, ev_i31, ev_i32, ev_pk1, ev_pk2, ev_pk3, ev_pk4, ev_pkw1, ev_pkw2, ev_pkv2, ev_isI, ev_isN, ev_isB, ev_inI, ev_inN, ev_inB, ev_listT, ev_listL, ev_tupT, ev_tupL, ev_fld, ev_insAt, ev_fldOwn, ev_fldG, ev_meth, ev_make, ev_callL, ev_noLI, ev_nilL, ev_nameL, ev_lendL, ev_conL, ev_augIx, ev_putAt, ev_iadd, ev_isub, ev_revT, ev_enum, ev_zip, ev_seqDL, ev_seqDT, ev_nilM, ev_vaM, ev_owM, ev_parM, ev_app, ev_par, ev_par3, ev_lam, ev_ra, ev_xfld, ev_isX, ev_isX_non, ev_hd_found, ev_hd_ret, ev_hd_expr, ev_hd_er, ev_outV, ev_outVn, ev_makeK, ev_band, ev_bxor, ev_bor, ev_aug, ev_trng1, ev_trng2, ev_revE, ev_idxF, ev_pop, R.bind_ok, R.out_ok, Option.bind_some, List.getElem?_cons_succ, List.getElem?_cons_zero, List.set_cons_succ, List.set_cons_zero, List.length_cons, List.length_nil, Nat.reduceAdd, Nat.reduceEqDiff, List.getD_cons_succ, List.getD_cons_zero, decide_true, decide_false, Bool.and_true, Bool.and_self, and_self, true_and, List.all_cons, List.all_nil, Bool.not_true, Bool.not_false, if_true, Bool.true_eq_false, Bool.false_eq_true, if_false, hw0, hw1, c2]
    obtain ⟨ms, P7, ed, hl, hn, h7⟩ := hd
    cases hw3 : decide (w < 3) with
    | true =>
      refine ⟨ms, P7, ?_, by omega, hn, h7.mono (by omega)⟩
      show outF true (g__law_row [.io (.l P), .un, .un, .un, .un, .un, .un]) = _
      unfold g__law_row
      refine EndR.out (EndR.seq (s1 := [.io (.l P2), .va (.int f), .va (.int m), .un, .un, .un, .un]) ?_ ?_)
      · simp only [ev_name, ev_c, ev_op2, ev_op1, ev_toR1, ev_toRL1, ev_nil, ev_cons, ev_opn, ev_opnN, ev_tup, ev_lst, ev_lstN, ev_new, ev_tst, ev_notT, ev_andT, ev_orT, ev_notF, ev_andF, ev_orF, ev_ifF, ev_yes, ev_iter, ev_rng1, ev_rng2, ev_rngW, ev_noP, ev_sl, ev_part, ev_next, ev_noG, ev_seq, ev_drop, ev_ret, ev_retN, ev_if, ev_asg, ev_setA, ev_nilA, ev_consA, ev_seqT, ev_seqL, ev_setN, ev_ok, ev_ioV, ev_ioU, ev_ioW, ev_owV, ev_owU, ev_own, ev_put, ev_ixOwn, ev_lenOwn, ev_setIx, ev_comp, ev_compL0, ev_compL1, ev_okC, ev_wipe1, ev_wipe0, ev_rest1, ev_rest0, ev_call, ev_callN, ev_ofr, ev_ofn, ev_ofnN, ev_mut, ev_mdl, ev_mdi, ev_io, ev_addI, ev_subI, ev_negI, ev_cmpI, ev_eqI, ev_neI, ev_eqS, ev_neS, ev_intI, ev_intB, ev_absI, ev_lenL, ev_lenT, ev_ixL, ev_ixT, ev_at0, ev_at1, ev_at2, ev_i30, ev_i31, ev_i32, ev_pk1, ev_pk2, ev_pk3, ev_pk4, ev_pkw1, ev_pkw2, ev_pkv2, ev_isI, ev_isN, ev_isB, ev_inI, ev_inN, ev_inB, ev_listT, ev_listL, ev_tupT, ev_tupL, ev_fld, ev_insAt, ev_fldOwn, ev_fldG, ev_meth, ev_make, ev_callL, ev_noLI, ev_nilL, ev_nameL, ev_lendL, ev_conL, ev_augIx, ev_putAt, ev_iadd, ev_isub, ev_revT, ev_enum, ev_zip, ev_seqDL, ev_seqDT, ev_nilM, ev_vaM, ev_owM, ev_parM, ev_app, ev_par, ev_par3, ev_lam, ev_ra, ev_xfld, ev_isX, ev_isX_non, ev_hd_found, ev_hd_ret, ev_hd_expr, ev_hd_er, ev_outV, ev_outVn, ev_makeK, ev_band, ev_bxor, ev_bor, ev_aug, ev_trng1, ev_trng2, ev_revE, ev_idxF, ev_pop, R.bind_ok, R.out_ok, Option.bind_some, List.getElem?_cons_succ, List.getElem?_cons_zero, List.set_cons_succ, List.set_cons_zero, List.length_cons, List.length_nil, Nat.reduceAdd, Nat.reduceEqDiff, List.getD_cons_succ, List.getD_cons_zero, decide_true, decide_false, Bool.and_true, Bool.and_self, and_self, true_and, List.all_cons, List.all_nil, Bool.not_true, Bool.not_false, if_true, Bool.true_eq_false, Bool.false_eq_true, if_false, q5, q9, q39, e1, e2, s7, s2]
      refine EndR.seq (s1 := R7 P4 f m w ba .un .un) ?_ ?_
      · simp only [R7, ev_name, ev_c, ev_op2, ev_op1, ev_toR1, ev_toRL1, ev_nil, ev_cons, ev_opn, ev_opnN, ev_tup, ev_lst, ev_lstN, ev_new, ev_tst, ev_notT, ev_andT, ev_orT, ev_notF, ev_andF, ev_orF, ev_ifF, ev_yes, ev_iter, ev_rng1, ev_rng2, ev_rngW, ev_noP, ev_sl, ev_part, ev_next, ev_noG, ev_seq, ev_drop, ev_ret, ev_retN, ev_if, ev_asg, ev_setA, ev_nilA, ev_consA, ev_seqT, ev_seqL, ev_setN, ev_ok, ev_ioV, ev_ioU, ev_ioW, ev_owV, ev_owU, ev_own, ev_put, ev_ixOwn, ev_lenOwn, ev_setIx, ev_comp, ev_compL0, ev_compL1, ev_okC, ev_wipe1, ev_wipe0, ev_rest1, ev_rest0, ev_call, ev_callN, ev_ofr, ev_ofn, ev_ofnN, ev_mut, ev_mdl, ev_mdi, ev_io, ev_addI, ev_subI, ev_negI, ev_cmpI, ev_eqI, ev_neI, ev_eqS, ev_neS, ev_intI, ev_intB, ev_absI, ev_lenL, ev_lenT, ev_ixL, ev_ixT, ev_at0, ev_at1, ev_at2, ev_i30, ev_i31, ev_i32, ev_pk1, ev_pk2, ev_pk3, ev_pk4, ev_pkw1, ev_pkw2, ev_pkv2, ev_isI, ev_isN, ev_isB, ev_inI, ev_inN, ev_inB, ev_listT, ev_listL, ev_tupT, ev_tupL, ev_fld, ev_insAt, ev_fldOwn, ev_fldG, ev_meth, ev_make, ev_callL, ev_noLI, ev_nilL, ev_nameL, ev_lendL, ev_conL, ev_augIx, ev_putAt, ev_iadd, ev_isub, ev_revT, ev_enum, ev_zip, ev_seqDL, ev_seqDT, ev_nilM, ev_vaM, ev_owM, ev_parM, ev_app, ev_par, ev_par3, ev_lam, ev_ra, ev_xfld, ev_isX, ev_isX_non, ev_hd_found, ev_hd_ret, ev_hd_expr, ev_hd_er, ev_outV, ev_outVn, ev_makeK, ev_band, ev_bxor, ev_bor, ev_aug, ev_trng1, ev_trng2, ev_revE, ev_idxF, ev_pop, R.bind_ok, R.out_ok, Option.bind_some, List.getElem?_cons_succ, List.getElem?_cons_zero, List.set_cons_succ, List.set_cons_zero, List.length_cons, List.length_nil, Nat.reduceAdd, Nat.reduceEqDiff, List.getD_cons_succ, List.getD_cons_zero, decide_true, decide_false, Bool.and_true, Bool.and_self, and_self, true_and, List.all_cons, List.all_nil, Bool.not_true, Bool.not_false, if_true, Bool.true_eq_false, Bool.false_eq_true, if_false, e3, e4, s2]
      rw [ed]
      simp only [R7, ev_name, ev_c, ev_op2, ev_op1, ev_toR1, ev_toRL1, ev_nil, ev_cons, ev_opn, ev_opnN, ev_tup, ev_lst, ev_lstN, ev_new, ev_tst, ev_notT, ev_andT, ev_orT, ev_notF, ev_andF, ev_orF, ev_ifF, ev_yes, ev_iter, ev_rng1, ev_rng2, ev_rngW, ev_noP, ev_sl, ev_part, ev_next, ev_noG, ev_seq, ev_drop, ev_ret, ev_retN, ev_if, ev_asg, ev_setA, ev_nilA, ev_consA, ev_seqT, ev_seqL, ev_setN, ev_ok, ev_ioV, ev_ioU, ev_ioW, ev_owV, ev_owU, ev_own, ev_put, ev_ixOwn, ev_lenOwn, ev_setIx, ev_comp, ev_compL0, ev_compL1, ev_okC, ev_wipe1, ev_wipe0, ev_rest1, ev_rest0, ev_call, ev_callN, ev_ofr, ev_ofn, ev_ofnN, ev_mut, ev_mdl, ev_mdi, ev_io, ev_addI, ev_subI, ev_negI, ev_cmpI, ev_eqI, ev_neI, ev_eqS, ev_neS, ev_intI, ev_intB, ev_absI, ev_lenL, ev_lenT, ev_ixL, ev_ixT, ev_at0, ev_at1, ev_at2, ev_i30, ev_i31, ev_i32, ev_pk1, ev_pk2, ev_pk3, ev_pk4, ev_pkw1, ev_pkw2, ev_pkv2, ev_isI, ev_isN, ev_isB, ev_inI, ev_inN, ev_inB, ev_listT, ev_listL, ev_tupT, ev_tupL, ev_fld, ev_insAt, ev_fldOwn, ev_fldG, ev_meth, ev_make, ev_callL, ev_noLI, ev_nilL, ev_nameL, ev_lendL, ev_conL, ev_augIx, ev_putAt, ev_iadd, ev_isub, ev_revT, ev_enum, ev_zip, ev_seqDL, ev_seqDT, ev_nilM, ev_vaM, ev_owM, ev_parM, ev_app, ev_par, ev_par3, ev_lam, ev_ra, ev_xfld, ev_isX, ev_isX_non, ev_hd_found, ev_hd_ret, ev_hd_expr, ev_hd_er, ev_outV, ev_outVn, ev_makeK, ev_band, ev_bxor, ev_bor, ev_aug, ev_trng1, ev_trng2, ev_revE, ev_idxF, ev_pop, R.bind_ok, R.out_ok, Option.bind_some, List.getElem?_cons_succ, List.getElem?_cons_zero, List.set_cons_succ, List.set_cons_zero, List.length_cons, List.length_nil, Nat.reduceAdd, Nat.reduceEqDiff, List.getD_cons_succ, List.getD_cons_zero, decide_true, decide_false, Bool.and_true, Bool.and_self, and_self, true_and, List.all_cons, List.all_nil, Bool.not_true, Bool.not_false, if_true, Bool.true_eq_false, Bool.false_eq_true, if_false, hw3]
      exact ⟨_, rfl, rfl⟩
    | false =>
      obtain ⟨d8, P8, e8, m8, h8⟩ := one (xs := [.int (10 ^ 39), .int (2 ^ 24), .int (10 ^ 7), .int 15, .int 16, .int 17]) h7 (by omega) (by simp) (by simp)
      obtain ⟨mo, rfl, hmo⟩ := more_of m8
      have ea : addD (.lst (ms.map D.int)) (.lst [.int mo]) = some (.lst ((ms ++ [mo]).map D.int)) := by
        rw [add_l (by rw [List.length_map]; show _ + 1 ≤ _; omega), List.map_append]
        rfl
      refine ⟨ms ++ [mo], P8, ?_, by rw [List.length_append]; show _ + 1 ≤ _; omega, fun n hn' => ?_, h8.mono (by omega)⟩
      · show outF true (g__law_row [.io (.l P), .un, .un, .un, .un, .un, .un]) = _
        unfold g__law_row
        refine EndR.out (EndR.seq (s1 := [.io (.l P2), .va (.int f), .va (.int m), .un, .un, .un, .un]) ?_ ?_)
        · simp only [ev_name, ev_c, ev_op2, ev_op1, ev_toR1, ev_toRL1, ev_nil, ev_cons, ev_opn, ev_opnN, ev_tup, ev_lst, ev_lstN, ev_new, ev_tst, ev_notT, ev_andT, ev_orT, ev_notF, ev_andF, ev_orF, ev_ifF, ev_yes, ev_iter, ev_rng1, ev_rng2, ev_rngW, ev_noP, ev_sl, ev_part, ev_next, ev_noG, ev_seq, ev_drop, ev_ret, ev_retN, ev_if, ev_asg, ev_setA, ev_nilA, ev_consA, ev_seqT, ev_seqL, ev_setN, ev_ok, ev_ioV, ev_ioU, ev_ioW, ev_owV, ev_owU, ev_own, ev_put, ev_ixOwn, ev_lenOwn, ev_setIx, ev_comp, ev_compL0, ev_compL1, ev_okC, ev_wipe1, ev_wipe0, ev_rest1, ev_rest0, ev_call, ev_callN, ev_ofr, ev_ofn, ev_ofnN, ev_mut, ev_mdl, ev_mdi, ev_io, ev_addI, ev_subI, ev_negI, ev_cmpI, ev_eqI, ev_neI, ev_eqS, ev_neS, ev_intI, ev_intB, ev_absI, ev_lenL, ev_lenT, ev_ixL, ev_ixT, ev_at0, ev_at1, ev_at2, ev_i30, ev_i31, ev_i32, ev_pk1, ev_pk2, ev_pk3, ev_pk4, ev_pkw1, ev_pkw2, ev_pkv2, ev_isI, ev_isN, ev_isB, ev_inI, ev_inN, ev_inB, ev_listT, ev_listL, ev_tupT, ev_tupL, ev_fld, ev_insAt, ev_fldOwn, ev_fldG, ev_meth, ev_make, ev_callL, ev_noLI, ev_nilL, ev_nameL, ev_lendL, ev_conL, ev_augIx, ev_putAt, ev_iadd, ev_isub, ev_revT, ev_enum, ev_zip, ev_seqDL, ev_seqDT, ev_nilM, ev_vaM, ev_owM, ev_parM, ev_app, ev_par, ev_par3, ev_lam, ev_ra, ev_xfld, ev_isX, ev_isX_non, ev_hd_found, ev_hd_ret, ev_hd_expr, ev_hd_er, ev_outV, ev_outVn, ev_makeK, ev_band, ev_bxor, ev_bor, ev_aug, ev_trng1, ev_trng2, ev_revE, ev_idxF, ev_pop, R.bind_ok, R.out_ok, Option.bind_some, List.getElem?_cons_succ, List.getElem?_cons_zero, List.set_cons_succ, List.set_cons_zero, List.length_cons, List.length_nil, Nat.reduceAdd, Nat.reduceEqDiff, List.getD_cons_succ, List.getD_cons_zero, decide_true, decide_false, Bool.and_true, Bool.and_self, and_self, true_and, List.all_cons, List.all_nil, Bool.not_true, Bool.not_false, if_true, Bool.true_eq_false, Bool.false_eq_true, if_false, q5, q9, q39, e1, e2, s7, s2]
        refine EndR.seq (s1 := R7 P4 f m w ba .un .un) ?_ ?_
        · simp only [R7, ev_name, ev_c, ev_op2, ev_op1, ev_toR1, ev_toRL1, ev_nil, ev_cons, ev_opn, ev_opnN, ev_tup, ev_lst, ev_lstN, ev_new, ev_tst, ev_notT, ev_andT, ev_orT, ev_notF, ev_andF, ev_orF, ev_ifF, ev_yes, ev_iter, ev_rng1, ev_rng2, ev_rngW, ev_noP, ev_sl, ev_part, ev_next, ev_noG, ev_seq, ev_drop, ev_ret, ev_retN, ev_if, ev_asg, ev_setA, ev_nilA, ev_consA, ev_seqT, ev_seqL, ev_setN, ev_ok, ev_ioV, ev_ioU, ev_ioW, ev_owV, ev_owU, ev_own, ev_put, ev_ixOwn, ev_lenOwn, ev_setIx, ev_comp, ev_compL0, ev_compL1, ev_okC, ev_wipe1, ev_wipe0, ev_rest1, ev_rest0, ev_call, ev_callN, ev_ofr, ev_ofn, ev_ofnN, ev_mut, ev_mdl, ev_mdi, ev_io, ev_addI, ev_subI, ev_negI, ev_cmpI, ev_eqI, ev_neI, ev_eqS, ev_neS, ev_intI, ev_intB, ev_absI, ev_lenL, ev_lenT, ev_ixL, ev_ixT, ev_at0, ev_at1, ev_at2, ev_i30, ev_i31, ev_i32, ev_pk1, ev_pk2, ev_pk3, ev_pk4, ev_pkw1, ev_pkw2, ev_pkv2, ev_isI, ev_isN, ev_isB, ev_inI, ev_inN, ev_inB, ev_listT, ev_listL, ev_tupT, ev_tupL, ev_fld, ev_insAt, ev_fldOwn, ev_fldG, ev_meth, ev_make, ev_callL, ev_noLI, ev_nilL, ev_nameL, ev_lendL, ev_conL, ev_augIx, ev_putAt, ev_iadd, ev_isub, ev_revT, ev_enum, ev_zip, ev_seqDL, ev_seqDT, ev_nilM, ev_vaM, ev_owM, ev_parM, ev_app, ev_par, ev_par3, ev_lam, ev_ra, ev_xfld, ev_isX, ev_isX_non, ev_hd_found, ev_hd_ret, ev_hd_expr, ev_hd_er, ev_outV, ev_outVn, ev_makeK, ev_band, ev_bxor, ev_bor, ev_aug, ev_trng1, ev_trng2, ev_revE, ev_idxF, ev_pop, R.bind_ok, R.out_ok, Option.bind_some, List.getElem?_cons_succ, List.getElem?_cons_zero, List.set_cons_succ, List.set_cons_zero, List.length_cons, List.length_nil, Nat.reduceAdd, Nat.reduceEqDiff, List.getD_cons_succ, List.getD_cons_zero, decide_true, decide_false, Bool.and_true, Bool.and_self, and_self, true_and, List.all_cons, List.all_nil, Bool.not_true, Bool.not_false, if_true, Bool.true_eq_false, Bool.false_eq_true, if_false, e3, e4, s2]
        rw [ed]
        simp only [R7, ev_name, ev_c, ev_op2, ev_op1, ev_toR1, ev_toRL1, ev_nil, ev_cons, ev_opn, ev_opnN, ev_tup, ev_lst, ev_lstN, ev_new, ev_tst, ev_notT, ev_andT, ev_orT, ev_notF, ev_andF, ev_orF, ev_ifF, ev_yes, ev_iter, ev_rng1, ev_rng2, ev_rngW, ev_noP, ev_sl, ev_part, ev_next, ev_noG, ev_seq, ev_drop, ev_ret, ev_retN, ev_if, ev_asg, ev_setA, ev_nilA, ev_consA, ev_seqT, ev_seqL, ev_setN, ev_ok, ev_ioV, ev_ioU, ev_ioW, ev_owV, ev_owU, ev_own, ev_put, ev_ixOwn, ev_lenOwn, ev_setIx, ev_comp, ev_compL0, ev_compL1, ev_okC, ev_wipe1, ev_wipe0, ev_rest1, ev_rest0, ev_call, ev_callN, ev_ofr, ev_ofn, ev_ofnN, ev_mut, ev_mdl, ev_mdi, ev_io, ev_addI, ev_subI, ev_negI, ev_cmpI, ev_eqI, ev_neI, ev_eqS, ev_neS, ev_intI, ev_intB, ev_absI, ev_lenL, ev_lenT, ev_ixL, ev_ixT, ev_at0, ev_at1, ev_at2, ev_i30, ev_i31, ev_i32, ev_pk1, ev_pk2, ev_pk3, ev_pk4, ev_pkw1, ev_pkw2, ev_pkv2, ev_isI, ev_isN, ev_isB, ev_inI, ev_inN, ev_inB, ev_listT, ev_listL, ev_tupT, ev_tupL, ev_fld, ev_insAt, ev_fldOwn, ev_fldG, ev_meth, ev_make, ev_callL, ev_noLI, ev_nilL, ev_nameL, ev_lendL, ev_conL, ev_augIx, ev_putAt, ev_iadd, ev_isub, ev_revT, ev_enum, ev_zip, ev_seqDL, ev_seqDT, ev_nilM, ev_vaM, ev_owM, ev_parM, ev_app, ev_par, ev_par3, ev_lam, ev_ra, ev_xfld, ev_isX, ev_isX_non, ev_hd_found, ev_hd_ret, ev_hd_expr, ev_hd_er, ev_outV, ev_outVn, ev_makeK, ev_band, ev_bxor, ev_bor, ev_aug, ev_trng1, ev_trng2, ev_revE, ev_idxF, ev_pop, R.bind_ok, R.out_ok, Option.bind_some, List.getElem?_cons_succ, List.getElem?_cons_zero, List.set_cons_succ, List.set_cons_zero, List.length_cons, List.length_nil, Nat.reduceAdd, Nat.reduceEqDiff, List.getD_cons_succ, List.getD_cons_zero, decide_true, decide_false, Bool.and_true, Bool.and_self, and_self, true_and, List.all_cons, List.all_nil, Bool.not_true, Bool.not_false, if_true, Bool.true_eq_false, Bool.false_eq_true, if_false, hw3, q39, q24, q7, s6, s1, e8, ea]
        exact ⟨_, rfl, rfl⟩
      · rcases List.mem_append.mp hn' with hn' | hn'
        · exact hn n hn'
        · rw [List.mem_singleton.mp hn']
          exact hmo
end Fx

set_option Elab.async false
set_option linter.all false
set_option maxRecDepth 100000
set_option exponentiation.threshold 3000
namespace Fx
variable [Tbl]
open PySem L2 PyProof.Rows
/-! ### one turn -/
theorem eq_str (z : Str) : eqD (.str z) (.str z) = some (.bl true) := by
  show some (D.bl (decide (z = z))) = _
  rw [decide_eq_true rfl]
theorem repr_i {n : Int} (h : n.natAbs.log2 < 1920) : ∃ z, reprD [.int n] = some (.str z) := by
  refine repr_of ?_ (Nat.le_of_ble_eq_true rfl) (Nat.le_of_ble_eq_true rfl)
  unfold shOk
  exact decide_eq_true h
theorem sz_bd {n p : Int} (h : Nm n) (p0 : 0 ≤ p) (p1 : p ≤ 20) : 0 ≤ sz n p ∧ sz n p ≤ 400 := by
  obtain ⟨b0, b1⟩ := hi_bd h (p := p)
  unfold sz
  unfold Nm at h
  split
  · omega
  · have := gz_bd (n := n / 2 ^ p.toNat - 16) (by omega) (by omega)
    omega
theorem tot_bd {p : Int} (p0 : 0 ≤ p) (p1 : p ≤ 20) : ∀ {ms : List Int}, (∀ n ∈ ms, Nm n) → 0 ≤ tot ms p ∧ tot ms p ≤ 400 * (ms.length : Int)
  | [], _ => ⟨Int.le_refl _, Int.le_refl _⟩
  | n :: ms, h => by
    obtain ⟨h1, h2⟩ := tot_bd p0 p1 (ms := ms) fun n hn => h n (List.mem_cons_of_mem _ hn)
    obtain ⟨h3, h4⟩ := sz_bd (h n List.mem_cons_self) p0 p1
    have e : tot (n :: ms) p = sz n p + tot ms p := by
      unfold tot
      rw [List.map_cons, List.sum_cons]
    rw [e, List.length_cons]
    omega
theorem szs_at {ms : List Int} {p : Int} (p0 : 0 ≤ p) (p1 : p ≤ 20) : atD ((szs ms).map D.int) p = some (.int (tot ms p)) := by
  refine ev_int p0 ?_
  have e : (szs ms).map D.int = (List.range 21).map fun j : Nat => D.int (tot ms (0 + (j : Int))) := by
    unfold szs intsR
    rw [List.map_map, List.map_map]
    rfl
  rw [e, List.getElem?_map, List.getElem?_range (by omega)]
  show some (D.int (tot ms (0 + (p.toNat : Int)))) = _
  rw [show 0 + (p.toNat : Int) = p by omega]
abbrev R8 (P : List D) (ms S : List D) (d : Int) (x4 x5 x6 x7 : Sl) : List Sl := [.io (.l P), .va (.lst ms), .va (.lst S), .va (.int d), x4, x5, x6, x7]
theorem turn_p {P : List D} {ms : List Int} {d p : Int} {x5 x6 x7 : Sl} (h : Row ms) (hl : ms.length ≤ 100) (p0 : 0 ≤ p) (p1 : p ≤ 20) (h5 : Pl x5) (h6 : Pl x6) (h7 : Pl x7) :
    ∃ y5, g__law_right_b1 (R8 P (ms.map D.int) ((szs ms).map D.int) d (.va (.int p)) x5 x6 x7) = .nx (R8 P (ms.map D.int) ((szs ms).map D.int) d (.va (.int p)) y5 x6 x7) ∧ Pl y5 := by
  refine ⟨.va (.lst ((ms.map fun n => sz n p).map D.int)), ?_, Pl.va⟩
  have hc : compN (iterF (nameF 1)) [6] (setA 6) yesT (callF F_rice_size 2 (pickG 2 0 [] [0, 1]) (consF (nameF 6) (consF (nameF 4) nilF)) nilF) (R8 P (ms.map D.int) ((szs ms).map D.int) d (.va (.int p)) x5 x6 x7) = .ok ((ms.map fun n => sz n p).map D.int) (R8 P (ms.map D.int) ((szs ms).map D.int) d (.va (.int p)) x5 x6 x7) := by
    rw [List.map_map]
    refine compN_src1 D.int (fun n => D.int (sz n p)) (xs := ms) rfl (by have := h.1; rw [sizeLine_eq]; omega) (y0 := x6) rfl h6 rfl fun n hn => ?_
    have e := rice_size (h.2 n hn) p0 p1
    simp only [R8, ev_name, ev_c, ev_op2, ev_op1, ev_toR1, ev_toRL1, ev_nil, ev_cons, ev_opn, ev_opnN, ev_tup, ev_lst, ev_lstN, ev_new, ev_tst, ev_notT, ev_andT, ev_orT, ev_notF, ev_andF, ev_orF, ev_ifF, ev_yes, ev_iter, ev_rng1, ev_rng2, ev_rngW, ev_noP, ev_sl, ev_part, ev_next, ev_noG, ev_seq, ev_drop, ev_ret, ev_retN, ev_if, ev_asg, ev_setA, ev_nilA, ev_consA, ev_seqT, ev_seqL, ev_setN, ev_ok, ev_ioV, ev_ioU, ev_ioW, ev_owV, ev_owU, ev_own, ev_put, ev_ixOwn, ev_lenOwn, ev_setIx, ev_okC, ev_wipe1, ev_wipe0, ev_rest1, ev_rest0, ev_call, ev_callN, ev_ofr, ev_ofn, ev_ofnN, ev_mut, ev_mdl, ev_mdi, ev_io, ev_addI, ev_subI, ev_negI, ev_cmpI, ev_eqI, ev_neI, ev_eqS, ev_neS, ev_intI, ev_intB, ev_absI, ev_lenL, ev_lenT, ev_ixL, ev_ixT, ev_at0, ev_at1, ev_at2, ev_i30, ev_i31, ev_i32, ev_pk1, ev_pk2, ev_pk3, ev_pk4, ev_pkw1, ev_pkw2, ev_pkv2, ev_isI, ev_isN, ev_isB, ev_inI, ev_inN, ev_inB, ev_listT, ev_listL, ev_tupT, ev_tupL, ev_fld, ev_insAt, ev_fldOwn, ev_fldG, ev_meth, ev_make, ev_callL, ev_noLI, ev_nilL, ev_nameL, ev_lendL, ev_conL, ev_augIx, ev_putAt, ev_iadd, ev_isub, ev_revT, ev_enum, ev_zip, ev_seqDL, ev_seqDT, ev_nilM, ev_vaM, ev_owM, ev_parM, ev_app, ev_par, ev_par3, ev_lam, ev_ra, ev_xfld, ev_isX, ev_isX_non, ev_hd_found, ev_hd_ret, ev_hd_expr, ev_hd_er, ev_outV, ev_outVn, ev_makeK, ev_band, ev_bxor, ev_bor, ev_aug, ev_trng1, ev_trng2, ev_revE, ev_idxF, ev_pop, R.bind_ok, R.out_ok, Option.bind_some, List.getElem?_cons_succ, List.getElem?_cons_zero, List.set_cons_succ, List.set_cons_zero, List.length_cons, List.length_nil, Nat.reduceAdd, Nat.reduceEqDiff, List.getD_cons_succ, List.getD_cons_zero, decide_true, decide_false, Bool.and_true, Bool.and_self, and_self, true_and, List.all_cons, List.all_nil, Bool.not_true, Bool.not_false, if_true, Bool.true_eq_false, Bool.false_eq_true, if_false, e]
  have hz : compN (zipF (nameF 5) (nameF 1)) [7, 6] (seqA 2 (consA (setA 7) (consA (setA 6) nilA))) (tstF (op2F neD (nameF 7) (opnF lenD (consF (callF F_rice 2 (pickG 2 0 [] [0, 1]) (consF (nameF 6) (consF (nameF 4) nilF)) nilF) nilF)))) (nameF 7) (R8 P (ms.map D.int) ((szs ms).map D.int) d (.va (.int p)) (.va (.lst ((ms.map fun n => sz n p).map D.int))) x6 x7)
      = .ok [] (R8 P (ms.map D.int) ((szs ms).map D.int) d (.va (.int p)) (.va (.lst ((ms.map fun n => sz n p).map D.int))) x6 x7) := by
    have ek : zipF (nameF 5) (nameF 1) (R8 P (ms.map D.int) ((szs ms).map D.int) d (.va (.int p)) (.va (.lst ((ms.map fun n => sz n p).map D.int))) x6 x7) = .ok (ms.map fun n => D.tup [.int (sz n p), .int n]) (R8 P (ms.map D.int) ((szs ms).map D.int) d (.va (.int p)) (.va (.lst ((ms.map fun n => sz n p).map D.int))) x6 x7) := by
      simp only [R8, ev_name, ev_c, ev_op2, ev_op1, ev_toR1, ev_toRL1, ev_nil, ev_cons, ev_opn, ev_opnN, ev_tup, ev_lst, ev_lstN, ev_new, ev_tst, ev_notT, ev_andT, ev_orT, ev_notF, ev_andF, ev_orF, ev_ifF, ev_yes, ev_iter, ev_rng1, ev_rng2, ev_rngW, ev_noP, ev_sl, ev_part, ev_next, ev_noG, ev_seq, ev_drop, ev_ret, ev_retN, ev_if, ev_asg, ev_setA, ev_nilA, ev_consA, ev_seqT, ev_seqL, ev_setN, ev_ok, ev_ioV, ev_ioU, ev_ioW, ev_owV, ev_owU, ev_own, ev_put, ev_ixOwn, ev_lenOwn, ev_setIx, ev_okC, ev_wipe1, ev_wipe0, ev_rest1, ev_rest0, ev_call, ev_callN, ev_ofr, ev_ofn, ev_ofnN, ev_mut, ev_mdl, ev_mdi, ev_io, ev_addI, ev_subI, ev_negI, ev_cmpI, ev_eqI, ev_neI, ev_eqS, ev_neS, ev_intI, ev_intB, ev_absI, ev_lenL, ev_lenT, ev_ixL, ev_ixT, ev_at0, ev_at1, ev_at2, ev_i30, ev_i31, ev_i32, ev_pk1, ev_pk2, ev_pk3, ev_pk4, ev_pkw1, ev_pkw2, ev_pkv2, ev_isI, ev_isN, ev_isB, ev_inI, ev_inN, ev_inB, ev_listT, ev_listL, ev_tupT, ev_tupL, ev_fld, ev_insAt, ev_fldOwn, ev_fldG, ev_meth, ev_make, ev_callL, ev_noLI, ev_nilL, ev_nameL, ev_lendL, ev_conL, ev_augIx, ev_putAt, ev_iadd, ev_isub, ev_revT, ev_enum, ev_zip, ev_seqDL, ev_seqDT, ev_nilM, ev_vaM, ev_owM, ev_parM, ev_app, ev_par, ev_par3, ev_lam, ev_ra, ev_xfld, ev_isX, ev_isX_non, ev_hd_found, ev_hd_ret, ev_hd_expr, ev_hd_er, ev_outV, ev_outVn, ev_makeK, ev_band, ev_bxor, ev_bor, ev_aug, ev_trng1, ev_trng2, ev_revE, ev_idxF, ev_pop, R.bind_ok, R.out_ok, Option.bind_some, List.getElem?_cons_succ, List.getElem?_cons_zero, List.set_cons_succ, List.set_cons_zero, List.length_cons, List.length_nil, Nat.reduceAdd, Nat.reduceEqDiff, List.getD_cons_succ, List.getD_cons_zero, decide_true, decide_false, Bool.and_true, Bool.and_self, and_self, true_and, List.all_cons, List.all_nil, Bool.not_true, Bool.not_false, if_true, Bool.true_eq_false, Bool.false_eq_true, if_false]
      rw [List.map_map, zipD_map, List.zip_eq_zipWith, show List.zipWith Prod.mk ms ms = ms.map fun n => (n, n) from List.zipWith_self, List.map_map]
      rfl
    obtain ⟨s', e, y6, y7, rfl⟩ := compL_none (vs := [7, 6]) (a := seqA 2 (consA (setA 7) (consA (setA 6) nilA))) (u := tstF (op2F neD (nameF 7) (opnF lenD (consF (callF F_rice 2 (pickG 2 0 [] [0, 1]) (consF (nameF 6) (consF (nameF 4) nilF)) nilF) nilF)))) (f := nameF 7)
      (I := fun s => ∃ y6 y7, s = R8 P (ms.map D.int) ((szs ms).map D.int) d (.va (.int p)) (.va (.lst ((ms.map fun n => sz n p).map D.int))) y6 y7) (ms.map fun n => D.tup [.int (sz n p), .int n]) (R8 P (ms.map D.int) ((szs ms).map D.int) d (.va (.int p)) (.va (.lst ((ms.map fun n => sz n p).map D.int))) x6 x7) ⟨_, _, rfl⟩ fun dd hd s ⟨y6, y7, hs⟩ => by
      subst hs
      obtain ⟨n, hn, rfl⟩ := List.mem_map.mp hd
      obtain ⟨L, e, hL⟩ := rice (h.2 n hn) p0 p1
      have e2 : neD (.int (sz n p)) (.int ((L.length : Nat) : Int)) = some (.bl false) := by
        rw [hL]
        show some (D.bl (!decide (sz n p = sz n p))) = _
        rw [decide_eq_true rfl]
        rfl
      refine ⟨R8 P (ms.map D.int) ((szs ms).map D.int) d (.va (.int p)) (.va (.lst ((ms.map fun n => sz n p).map D.int))) (.va (.int n)) (.va (.int (sz n p))), R8 P (ms.map D.int) ((szs ms).map D.int) d (.va (.int p)) (.va (.lst ((ms.map fun n => sz n p).map D.int))) (.va (.int n)) (.va (.int (sz n p))), rfl, ?_, _, _, rfl⟩
      simp only [R8, ev_name, ev_c, ev_op2, ev_op1, ev_toR1, ev_toRL1, ev_nil, ev_cons, ev_opn, ev_opnN, ev_tup, ev_lst, ev_lstN, ev_new, ev_tst, ev_notT, ev_andT, ev_orT, ev_notF, ev_andF, ev_orF, ev_ifF, ev_yes, ev_iter, ev_rng1, ev_rng2, ev_rngW, ev_noP, ev_sl, ev_part, ev_next, ev_noG, ev_seq, ev_drop, ev_ret, ev_retN, ev_if, ev_asg, ev_setA, ev_nilA, ev_consA, ev_seqT, ev_seqL, ev_setN, ev_ok, ev_ioV, ev_ioU, ev_ioW, ev_owV, ev_owU, ev_own, ev_put, ev_ixOwn, ev_lenOwn, ev_setIx, ev_okC, ev_wipe1, ev_wipe0, ev_rest1, ev_rest0, ev_call, ev_callN, ev_ofr, ev_ofn, ev_ofnN, ev_mut, ev_mdl, ev_mdi, ev_io, ev_addI, ev_subI, ev_negI, ev_cmpI, ev_eqI, ev_neI, ev_eqS, ev_neS, ev_intI, ev_intB, ev_absI, ev_lenL, ev_lenT, ev_ixL, ev_ixT, ev_at0, ev_at1, ev_at2, ev_i30, ev_i31, ev_i32, ev_pk1, ev_pk2, ev_pk3, ev_pk4, ev_pkw1, ev_pkw2, ev_pkv2, ev_isI, ev_isN, ev_isB, ev_inI, ev_inN, ev_inB, ev_listT, ev_listL, ev_tupT, ev_tupL, ev_fld, ev_insAt, ev_fldOwn, ev_fldG, ev_meth, ev_make, ev_callL, ev_noLI, ev_nilL, ev_nameL, ev_lendL, ev_conL, ev_augIx, ev_putAt, ev_iadd, ev_isub, ev_revT, ev_enum, ev_zip, ev_seqDL, ev_seqDT, ev_nilM, ev_vaM, ev_owM, ev_parM, ev_app, ev_par, ev_par3, ev_lam, ev_ra, ev_xfld, ev_isX, ev_isX_non, ev_hd_found, ev_hd_ret, ev_hd_expr, ev_hd_er, ev_outV, ev_outVn, ev_makeK, ev_band, ev_bxor, ev_bor, ev_aug, ev_trng1, ev_trng2, ev_revE, ev_idxF, ev_pop, R.bind_ok, R.out_ok, Option.bind_some, List.getElem?_cons_succ, List.getElem?_cons_zero, List.set_cons_succ, List.set_cons_zero, List.length_cons, List.length_nil, Nat.reduceAdd, Nat.reduceEqDiff, List.getD_cons_succ, List.getD_cons_zero, decide_true, decide_false, Bool.and_true, Bool.and_self, and_self, true_and, List.all_cons, List.all_nil, Bool.not_true, Bool.not_false, if_true, Bool.true_eq_false, Bool.false_eq_true, if_false, e, e2]
    rw [ev_comp, ek, R.bind_ok, if_pos ⟨by rw [List.length_map, sizeLine_eq]; omega, by
      rw [List.all_cons, List.all_cons, List.all_nil, Bool.and_true, ev_okC, ev_okC]
      show (!owSl x7 && !owSl x6) = true
      rw [h6.2, h7.2]
      rfl⟩, e]
    rfl
  have es := sumE (ms.map fun n => sz n p)
  have et : (ms.map fun n => sz n p).sum = tot ms p := rfl
  rw [et] at es
  have ea := szs_at (ms := ms) p0 p1
  have htb := tot_bd p0 p1 h.2
  obtain ⟨z, hz2⟩ := repr_i (n := tot ms p) (log_of (k := 20) (by omega) (by decide) (by decide))
  have u2 : neD (.lst []) (.lst []) = some (.bl false) := ne_ints [] []
  generalize tot ms p = t at es ea hz2
  generalize (szs ms).map D.int = S at hc hz ea ⊢
  simp only [R8] at hc hz ⊢
  simp only [g__law_right_b1, ev_name, ev_c, ev_op2, ev_op1, ev_toR1, ev_toRL1, ev_nil, ev_cons, ev_opn, ev_opnN, ev_tup, ev_lst, ev_lstN, ev_new, ev_tst, ev_notT, ev_andT, ev_orT, ev_notF, ev_andF, ev_orF, ev_ifF, ev_yes, ev_iter, ev_rng1, ev_rng2, ev_rngW, ev_noP, ev_sl, ev_part, ev_next, ev_noG, ev_seq, ev_drop, ev_ret, ev_retN, ev_if, ev_asg, ev_setA, ev_nilA, ev_consA, ev_seqT, ev_seqL, ev_setN, ev_ok, ev_ioV, ev_ioU, ev_ioW, ev_owV, ev_owU, ev_own, ev_put, ev_ixOwn, ev_lenOwn, ev_setIx, ev_okC, ev_wipe1, ev_wipe0, ev_rest1, ev_rest0, ev_call, ev_callN, ev_ofr, ev_ofn, ev_ofnN, ev_mut, ev_mdl, ev_mdi, ev_io, ev_addI, ev_subI, ev_negI, ev_cmpI, ev_eqI, ev_neI, ev_eqS, ev_neS, ev_intI, ev_intB, ev_absI, ev_lenL, ev_lenT, ev_ixL, ev_ixT, ev_at0, ev_at1, ev_at2, ev_i30, ev_i31, ev_i32, ev_pk1, ev_pk2, ev_pk3, ev_pk4, ev_pkw1, ev_pkw2, ev_pkv2, ev_isI, ev_isN, ev_isB, ev_inI, ev_inN, ev_inB, ev_listT, ev_listL, ev_tupT, ev_tupL, ev_fld, ev_insAt, ev_fldOwn, ev_fldG, ev_meth, ev_make, ev_callL, ev_noLI, ev_nilL, ev_nameL, ev_lendL, ev_conL, ev_augIx, ev_putAt, ev_iadd, ev_isub, ev_revT, ev_enum, ev_zip, ev_seqDL, ev_seqDT, ev_nilM, ev_vaM, ev_owM, ev_parM, ev_app, ev_par, ev_par3, ev_lam, ev_ra, ev_xfld, ev_isX, ev_isX_non, ev_hd_found, ev_hd_ret, ev_hd_expr, ev_hd_er, ev_outV, ev_outVn, ev_makeK, ev_band, ev_bxor, ev_bor, ev_aug, ev_trng1, ev_trng2, ev_revE, ev_idxF, ev_pop, R.bind_ok, R.out_ok, Option.bind_some, List.getElem?_cons_succ, List.getElem?_cons_zero, List.set_cons_succ, List.set_cons_zero, List.length_cons, List.length_nil, Nat.reduceAdd, Nat.reduceEqDiff, List.getD_cons_succ, List.getD_cons_zero, decide_true, decide_false, Bool.and_true, Bool.and_self, and_self, true_and, List.all_cons, List.all_nil, Bool.not_true, Bool.not_false, if_true, Bool.true_eq_false, Bool.false_eq_true, if_false, hc, hz, h5.1, es, ea, hz2, ne_str, Nat.zero_le, u2]
theorem right {b : Nat} {P : List D} (h : Pen b P) (hb : b < 2 ^ 17) : ∃ P', F__law_right [.lst P] = .ret (.bl true) (.l P') ∧ Pen (b + 21) P' := by
  obtain ⟨ms, P1, e1, hl, hn, h1⟩ := row h hb
  obtain ⟨r, P2, e2, r0, r1, h2⟩ := draw (m := 21) h1 (by omega) (by decide) (by decide)
  have hR : Row ms := ⟨by omega, hn⟩
  have hRr : Row ms.reverse := ⟨by rw [List.length_reverse]; omega, fun n hm => hn n (List.mem_reverse.mp hm)⟩
  have hR2 : Row (ms ++ ms) := ⟨by rw [List.length_append]; omega, fun n hm => by
    rcases List.mem_append.mp hm with hm | hm <;> exact hn n hm⟩
  have g1 := law_sizes hR
  have g2 := best (x := .lst (ms.map D.int)) (.inl rfl) hR
  have g3 := best (x := .tup (ms.map D.int).reverse) (.inr (by rw [List.map_reverse])) hRr
  have g4 := best (x := .lst (ms.map D.int ++ ms.map D.int)) (.inl (by rw [List.map_append])) hR2
  rw [szs_rev] at g3
  rw [bi_two] at g4
  have a1 : addD (.lst (ms.map D.int)) (.lst (ms.map D.int)) = some (.lst (ms.map D.int ++ ms.map D.int)) := add_l (by rw [List.length_map]; omega)
  have i1 := minE (szs_ne ms)
  have i2 := idxE (szs_ne ms)
  obtain ⟨d0, d1⟩ := bi_bd (szs_ne ms)
  rw [szs_len] at d1
  have hsel : ∀ {p : Int}, 0 ≤ p → p ≤ 20 → ∀ {y5 y6 y7 : Sl}, Pl y5 → Pl y6 → Pl y7 → ∃ z5, g__law_right_b1 (R8 P2 (ms.map D.int) ((szs ms).map D.int) (bi (szs ms)) (.va (.int p)) y5 y6 y7) = .nx (R8 P2 (ms.map D.int) ((szs ms).map D.int) (bi (szs ms)) (.va (.int p)) z5 y6 y7) ∧ Pl z5 :=
    fun {p} p0 p1 {y5 y6 y7} h5 h6 h7 => turn_p hR (by omega) p0 p1 h5 h6 h7
  generalize hS : (szs ms).map D.int = S at g1 i1 i2 hsel
  generalize bi (szs ms) = d at g2 g3 g4 i2 d0 d1 hsel
  obtain ⟨z, hz⟩ := repr_i (n := d) (log_of (k := 20) (by omega) (by decide) (by decide))
  obtain ⟨s', e, y4, y5, y6, y7, rfl, q4, q5, q6, q7⟩ := forL_keep (a := setA 4) (G1 := g__law_right_b1) (I := fun s => ∃ y4 y5 y6 y7, s = R8 P2 (ms.map D.int) S d y4 y5 y6 y7 ∧ Pl y4 ∧ Pl y5 ∧ Pl y6 ∧ Pl y7) [.int 0, .int d, .int 20, .int r] (R8 P2 (ms.map D.int) S d .un .un .un .un) ⟨_, _, _, _, rfl, Pl.un, Pl.un, Pl.un, Pl.un⟩ fun dd hd s i => by
    obtain ⟨y4, y5, y6, y7, rfl, q4, q5, q6, q7⟩ := i
    obtain ⟨p, rfl, p0, p1⟩ : ∃ p, dd = .int p ∧ 0 ≤ p ∧ p ≤ 20 := by
      simp only [List.mem_cons, List.not_mem_nil, or_false] at hd
      rcases hd with rfl | rfl | rfl | rfl <;> exact ⟨_, rfl, by omega, by omega⟩
    obtain ⟨z5, e, hz5⟩ := hsel p0 p1 q5 q6 q7
    refine ⟨_, _, ?_, .inl e, _, _, _, _, rfl, Pl.va, hz5, q6, q7⟩
    simp only [R8, ev_name, ev_c, ev_op2, ev_op1, ev_toR1, ev_toRL1, ev_nil, ev_cons, ev_opn, ev_opnN, ev_tup, ev_lst, ev_lstN, ev_new, ev_tst, ev_notT, ev_andT, ev_orT, ev_notF, ev_andF, ev_orF, ev_ifF, ev_yes, ev_iter, ev_rng1, ev_rng2, ev_rngW, ev_noP, ev_sl, ev_part, ev_next, ev_noG, ev_seq, ev_drop, ev_ret, ev_retN, ev_if, ev_asg, ev_setA, ev_nilA, ev_consA, ev_seqT, ev_seqL, ev_setN, ev_ok, ev_ioV, ev_ioU, ev_ioW, ev_owV, ev_owU, ev_own, ev_put, ev_ixOwn, ev_lenOwn, ev_setIx, ev_comp, ev_compL0, ev_compL1, ev_okC, ev_wipe1, ev_wipe0, ev_rest1, ev_rest0, ev_call, ev_callN, ev_ofr, ev_ofn, ev_ofnN, ev_mut, ev_mdl, ev_mdi, ev_io, ev_addI, ev_subI, ev_negI, ev_cmpI, ev_eqI, ev_neI, ev_eqS, ev_neS, ev_intI, ev_intB, ev_absI, ev_lenL, ev_lenT, ev_ixL, ev_ixT, ev_at0, ev_at1, ev_at2, ev_i30, ev_i31, ev_i32, ev_pk1, ev_pk2, ev_pk3, ev_pk4, ev_pkw1, ev_pkw2, ev_pkv2, ev_isI, ev_isN, ev_isB, ev_inI, ev_inN, ev_inB, ev_listT, ev_listL, ev_tupT, ev_tupL, ev_fld, ev_insAt, ev_fldOwn, ev_fldG, ev_meth, ev_make, ev_callL, ev_noLI, ev_nilL, ev_nameL, ev_lendL, ev_conL, ev_augIx, ev_putAt, ev_iadd, ev_isub, ev_revT, ev_enum, ev_zip, ev_seqDL, ev_seqDT, ev_nilM, ev_vaM, ev_owM, ev_parM, ev_app, ev_par, ev_par3, ev_lam, ev_ra, ev_xfld, ev_isX, ev_isX_non, ev_hd_found, ev_hd_ret, ev_hd_expr, ev_hd_er, ev_outV, ev_outVn, ev_makeK, ev_band, ev_bxor, ev_bor, ev_aug, ev_trng1, ev_trng2, ev_revE, ev_idxF, ev_pop, R.bind_ok, R.out_ok, Option.bind_some, List.getElem?_cons_succ, List.getElem?_cons_zero, List.set_cons_succ, List.set_cons_zero, List.length_cons, List.length_nil, Nat.reduceAdd, Nat.reduceEqDiff, List.getD_cons_succ, List.getD_cons_zero, decide_true, decide_false, Bool.and_true, Bool.and_self, and_self, true_and, List.all_cons, List.all_nil, Bool.not_true, Bool.not_false, if_true, Bool.true_eq_false, Bool.false_eq_true, if_false, q4.1]
  have s4 : (4 ≤ sizeLine) = True := szA (by decide)
  have ef := forE (k := iterF (tupF (consF (cF (.int 0)) (consF (nameF 3) (consF (cF (.int 20)) (consF (callIoF F__law_draw 2 0 (consF (cF (.int 21)) nilF)) nilF)))))) (s := R8 P1 (ms.map D.int) S d .un .un .un .un) (by
    simp only [R8, ev_name, ev_c, ev_op2, ev_op1, ev_toR1, ev_toRL1, ev_nil, ev_cons, ev_opn, ev_opnN, ev_tup, ev_lst, ev_lstN, ev_new, ev_tst, ev_notT, ev_andT, ev_orT, ev_notF, ev_andF, ev_orF, ev_ifF, ev_yes, ev_iter, ev_rng1, ev_rng2, ev_rngW, ev_noP, ev_sl, ev_part, ev_next, ev_noG, ev_seq, ev_drop, ev_ret, ev_retN, ev_if, ev_asg, ev_setA, ev_nilA, ev_consA, ev_seqT, ev_seqL, ev_setN, ev_ok, ev_ioV, ev_ioU, ev_ioW, ev_owV, ev_owU, ev_own, ev_put, ev_ixOwn, ev_lenOwn, ev_setIx, ev_comp, ev_compL0, ev_compL1, ev_okC, ev_wipe1, ev_wipe0, ev_rest1, ev_rest0, ev_call, ev_callN, ev_ofr, ev_ofn, ev_ofnN, ev_mut, ev_mdl, ev_mdi, ev_io, ev_addI, ev_subI, ev_negI, ev_cmpI, ev_eqI, ev_neI, ev_eqS, ev_neS, ev_intI, ev_intB, ev_absI, ev_lenL, ev_lenT, ev_ixL, ev_ixT, ev_at0, ev_at1, ev_at2, ev_i30, ev_i31, ev_i32, ev_pk1, ev_pk2, ev_pk3, ev_pk4, ev_pkw1, ev_pkw2, ev_pkv2, ev_isI, ev_isN, ev_isB, ev_inI, ev_inN, ev_inB, ev_listT, ev_listL, ev_tupT, ev_tupL, ev_fld, ev_insAt, ev_fldOwn, ev_fldG, ev_meth, ev_make, ev_callL, ev_noLI, ev_nilL, ev_nameL, ev_lendL, ev_conL, ev_augIx, ev_putAt, ev_iadd, ev_isub, ev_revT, ev_enum, ev_zip, ev_seqDL, ev_seqDT, ev_nilM, ev_vaM, ev_owM, ev_parM, ev_app, ev_par, ev_par3, ev_lam, ev_ra, ev_xfld, ev_isX, ev_isX_non, ev_hd_found, ev_hd_ret, ev_hd_expr, ev_hd_er, ev_outV, ev_outVn, ev_makeK, ev_band, ev_bxor, ev_bor, ev_aug, ev_trng1, ev_trng2, ev_revE, ev_idxF, ev_pop, R.bind_ok, R.out_ok, Option.bind_some, List.getElem?_cons_succ, List.getElem?_cons_zero, List.set_cons_succ, List.set_cons_zero, List.length_cons, List.length_nil, Nat.reduceAdd, Nat.reduceEqDiff, List.getD_cons_succ, List.getD_cons_zero, decide_true, decide_false, Bool.and_true, Bool.and_self, and_self, true_and, List.all_cons, List.all_nil, Bool.not_true, Bool.not_false, if_true, Bool.true_eq_false, Bool.false_eq_true, if_false, e2, s4]) e
  have hdd : decide (d = d) = true := decide_eq_true rfl
  refine ⟨P2, ?_, h2⟩
  show outF true (g__law_right [.io (.l P), .un, .un, .un, .un, .un, .un, .un]) = _
  unfold g__law_right
  simp only [R8] at ef
  generalize F__law_row = A1 at e1 ⊢
  generalize F__law_sizes = A2 at g1 ⊢
  generalize F_best_parameter = A3 at g2 g3 g4 ⊢
  refine EndR.out (EndR.seq (s1 := [.io (.l P1), .va (.lst (ms.map D.int)), .un, .un, .un, .un, .un, .un]) ?_ ?_)
  · simp only [ev_name, ev_c, ev_op2, ev_op1, ev_toR1, ev_toRL1, ev_nil, ev_cons, ev_opn, ev_opnN, ev_tup, ev_lst, ev_lstN, ev_new, ev_tst, ev_notT, ev_andT, ev_orT, ev_notF, ev_andF, ev_orF, ev_ifF, ev_yes, ev_iter, ev_rng1, ev_rng2, ev_rngW, ev_noP, ev_sl, ev_part, ev_next, ev_noG, ev_seq, ev_drop, ev_ret, ev_retN, ev_if, ev_asg, ev_setA, ev_nilA, ev_consA, ev_seqT, ev_seqL, ev_setN, ev_ok, ev_ioV, ev_ioU, ev_ioW, ev_owV, ev_owU, ev_own, ev_put, ev_ixOwn, ev_lenOwn, ev_setIx, ev_comp, ev_compL0, ev_compL1, ev_okC, ev_wipe1, ev_wipe0, ev_rest1, ev_rest0, ev_call, ev_callN, ev_ofr, ev_ofn, ev_ofnN, ev_mut, ev_mdl, ev_mdi, ev_io, ev_addI, ev_subI, ev_negI, ev_cmpI, ev_eqI, ev_neI, ev_eqS, ev_neS, ev_intI, ev_intB, ev_absI, ev_lenL, ev_lenT, ev_ixL, ev_ixT, ev_at0, ev_at1, ev_at2, ev_i30, ev_i31, ev_i32, ev_pk1, ev_pk2, ev_pk3, ev_pk4, ev_pkw1, ev_pkw2, ev_pkv2, ev_isI, ev_isN, ev_isB, ev_inI, ev_inN, ev_inB, ev_listT, ev_listL, ev_tupT, ev_tupL, ev_fld, ev_insAt, ev_fldOwn, ev_fldG, ev_meth, ev_make, ev_callL, ev_noLI, ev_nilL, ev_nameL, ev_lendL, ev_conL, ev_augIx, ev_putAt, ev_iadd, ev_isub, ev_revT, ev_enum, ev_zip, ev_seqDL, ev_seqDT, ev_nilM, ev_vaM, ev_owM, ev_parM, ev_app, ev_par, ev_par3, ev_lam, ev_ra, ev_xfld, ev_isX, ev_isX_non, ev_hd_found, ev_hd_ret, ev_hd_expr, ev_hd_er, ev_outV, ev_outVn, ev_makeK, ev_band, ev_bxor, ev_bor, ev_aug, ev_trng1, ev_trng2, ev_revE, ev_idxF, ev_pop, R.bind_ok, R.out_ok, Option.bind_some, List.getElem?_cons_succ, List.getElem?_cons_zero, List.set_cons_succ, List.set_cons_zero, List.length_cons, List.length_nil, Nat.reduceAdd, Nat.reduceEqDiff, List.getD_cons_succ, List.getD_cons_zero, decide_true, decide_false, Bool.and_true, Bool.and_self, and_self, true_and, List.all_cons, List.all_nil, Bool.not_true, Bool.not_false, if_true, Bool.true_eq_false, Bool.false_eq_true, if_false, e1]
  refine EndR.seq (s1 := [.io (.l P1), .va (.lst (ms.map D.int)), .va (.lst S), .un, .un, .un, .un, .un]) ?_ ?_
  · simp only [ev_name, ev_c, ev_op2, ev_op1, ev_toR1, ev_toRL1, ev_nil, ev_cons, ev_opn, ev_opnN, ev_tup, ev_lst, ev_lstN, ev_new, ev_tst, ev_notT, ev_andT, ev_orT, ev_notF, ev_andF, ev_orF, ev_ifF, ev_yes, ev_iter, ev_rng1, ev_rng2, ev_rngW, ev_noP, ev_sl, ev_part, ev_next, ev_noG, ev_seq, ev_drop, ev_ret, ev_retN, ev_if, ev_asg, ev_setA, ev_nilA, ev_consA, ev_seqT, ev_seqL, ev_setN, ev_ok, ev_ioV, ev_ioU, ev_ioW, ev_owV, ev_owU, ev_own, ev_put, ev_ixOwn, ev_lenOwn, ev_setIx, ev_comp, ev_compL0, ev_compL1, ev_okC, ev_wipe1, ev_wipe0, ev_rest1, ev_rest0, ev_call, ev_callN, ev_ofr, ev_ofn, ev_ofnN, ev_mut, ev_mdl, ev_mdi, ev_io, ev_addI, ev_subI, ev_negI, ev_cmpI, ev_eqI, ev_neI, ev_eqS, ev_neS, ev_intI, ev_intB, ev_absI, ev_lenL, ev_lenT, ev_ixL, ev_ixT, ev_at0, ev_at1, ev_at2, ev_i30, ev_i31, ev_i32, ev_pk1, ev_pk2, ev_pk3, ev_pk4, ev_pkw1, ev_pkw2, ev_pkv2, ev_isI, ev_isN, ev_isB, ev_inI, ev_inN, ev_inB, ev_listT, ev_listL, ev_tupT, ev_tupL, ev_fld, ev_insAt, ev_fldOwn, ev_fldG, ev_meth, ev_make, ev_callL, ev_noLI, ev_nilL, ev_nameL, ev_lendL, ev_conL, ev_augIx, ev_putAt, ev_iadd, ev_isub, ev_revT, ev_enum, ev_zip, ev_seqDL, ev_seqDT, ev_nilM, ev_vaM, ev_owM, ev_parM, ev_app, ev_par, ev_par3, ev_lam, ev_ra, ev_xfld, ev_isX, ev_isX_non, ev_hd_found, ev_hd_ret, ev_hd_expr, ev_hd_er, ev_outV, ev_outVn, ev_makeK, ev_band, ev_bxor, ev_bor, ev_aug, ev_trng1, ev_trng2, ev_revE, ev_idxF, ev_pop, R.bind_ok, R.out_ok, Option.bind_some, List.getElem?_cons_succ, List.getElem?_cons_zero, List.set_cons_succ, List.set_cons_zero, List.length_cons, List.length_nil, Nat.reduceAdd, Nat.reduceEqDiff, List.getD_cons_succ, List.getD_cons_zero, decide_true, decide_false, Bool.and_true, Bool.and_self, and_self, true_and, List.all_cons, List.all_nil, Bool.not_true, Bool.not_false, if_true, Bool.true_eq_false, Bool.false_eq_true, if_false, g1]
  refine EndR.seq (s1 := [.io (.l P1), .va (.lst (ms.map D.int)), .va (.lst S), .va (.int d), .un, .un, .un, .un]) ?_ ?_
  · simp only [ev_name, ev_c, ev_op2, ev_op1, ev_toR1, ev_toRL1, ev_nil, ev_cons, ev_opn, ev_opnN, ev_tup, ev_lst, ev_lstN, ev_new, ev_tst, ev_notT, ev_andT, ev_orT, ev_notF, ev_andF, ev_orF, ev_ifF, ev_yes, ev_iter, ev_rng1, ev_rng2, ev_rngW, ev_noP, ev_sl, ev_part, ev_next, ev_noG, ev_seq, ev_drop, ev_ret, ev_retN, ev_if, ev_asg, ev_setA, ev_nilA, ev_consA, ev_seqT, ev_seqL, ev_setN, ev_ok, ev_ioV, ev_ioU, ev_ioW, ev_owV, ev_owU, ev_own, ev_put, ev_ixOwn, ev_lenOwn, ev_setIx, ev_comp, ev_compL0, ev_compL1, ev_okC, ev_wipe1, ev_wipe0, ev_rest1, ev_rest0, ev_call, ev_callN, ev_ofr, ev_ofn, ev_ofnN, ev_mut, ev_mdl, ev_mdi, ev_io, ev_addI, ev_subI, ev_negI, ev_cmpI, ev_eqI, ev_neI, ev_eqS, ev_neS, ev_intI, ev_intB, ev_absI, ev_lenL, ev_lenT, ev_ixL, ev_ixT, ev_at0, ev_at1, ev_at2, ev_i30, ev_i31, ev_i32, ev_pk1, ev_pk2, ev_pk3, ev_pk4, ev_pkw1, ev_pkw2, ev_pkv2, ev_isI, ev_isN, ev_isB, ev_inI, ev_inN, ev_inB, ev_listT, ev_listL, ev_tupT, ev_tupL, ev_fld, ev_insAt, ev_fldOwn, ev_fldG, ev_meth, ev_make, ev_callL, ev_noLI, ev_nilL, ev_nameL, ev_lendL, ev_conL, ev_augIx, ev_putAt, ev_iadd, ev_isub, ev_revT, ev_enum, ev_zip, ev_seqDL, ev_seqDT, ev_nilM, ev_vaM, ev_owM, ev_parM, ev_app, ev_par, ev_par3, ev_lam, ev_ra, ev_xfld, ev_isX, ev_isX_non, ev_hd_found, ev_hd_ret, ev_hd_expr, ev_hd_er, ev_outV, ev_outVn, ev_makeK, ev_band, ev_bxor, ev_bor, ev_aug, ev_trng1, ev_trng2, ev_revE, ev_idxF, ev_pop, R.bind_ok, R.out_ok, Option.bind_some, List.getElem?_cons_succ, List.getElem?_cons_zero, List.set_cons_succ, List.set_cons_zero, List.length_cons, List.length_nil, Nat.reduceAdd, Nat.reduceEqDiff, List.getD_cons_succ, List.getD_cons_zero, decide_true, decide_false, Bool.and_true, Bool.and_self, and_self, true_and, List.all_cons, List.all_nil, Bool.not_true, Bool.not_false, if_true, Bool.true_eq_false, Bool.false_eq_true, if_false, i1, i2]
  refine EndR.seq (s1 := [.io (.l P1), .va (.lst (ms.map D.int)), .va (.lst S), .va (.int d), .un, .un, .un, .un]) ?_ ?_
  · simp only [ev_name, ev_c, ev_op2, ev_op1, ev_toR1, ev_toRL1, ev_nil, ev_cons, ev_opn, ev_opnN, ev_tup, ev_lst, ev_lstN, ev_new, ev_tst, ev_notT, ev_andT, ev_orT, ev_notF, ev_andF, ev_orF, ev_ifF, ev_yes, ev_iter, ev_rng1, ev_rng2, ev_rngW, ev_noP, ev_sl, ev_part, ev_next, ev_noG, ev_seq, ev_drop, ev_ret, ev_retN, ev_if, ev_asg, ev_setA, ev_nilA, ev_consA, ev_seqT, ev_seqL, ev_setN, ev_ok, ev_ioV, ev_ioU, ev_ioW, ev_owV, ev_owU, ev_own, ev_put, ev_ixOwn, ev_lenOwn, ev_setIx, ev_comp, ev_compL0, ev_compL1, ev_okC, ev_wipe1, ev_wipe0, ev_rest1, ev_rest0, ev_call, ev_callN, ev_ofr, ev_ofn, ev_ofnN, ev_mut, ev_mdl, ev_mdi, ev_io, ev_addI, ev_subI, ev_negI, ev_cmpI, ev_eqI, ev_neI, ev_eqS, ev_neS, ev_intI, ev_intB, ev_absI, ev_lenL, ev_lenT, ev_ixL, ev_ixT, ev_at0, ev_at1, ev_at2, ev_i30, ev_i31, ev_i32, ev_pk1, ev_pk2, ev_pk3, ev_pk4, ev_pkw1, ev_pkw2, ev_pkv2, ev_isI, ev_isN, ev_isB, ev_inI, ev_inN, ev_inB, ev_listT, ev_listL, ev_tupT, ev_tupL, ev_fld, ev_insAt, ev_fldOwn, ev_fldG, ev_meth, ev_make, ev_callL, ev_noLI, ev_nilL, ev_nameL, ev_lendL, ev_conL, ev_augIx, ev_putAt, ev_iadd, ev_isub, ev_revT, ev_enum, ev_zip, ev_seqDL, ev_seqDT, ev_nilM, ev_vaM, ev_owM, ev_parM, ev_app, ev_par, ev_par3, ev_lam, ev_ra, ev_xfld, ev_isX, ev_isX_non, ev_hd_found, ev_hd_ret, ev_hd_expr, ev_hd_er, ev_outV, ev_outVn, ev_makeK, ev_band, ev_bxor, ev_bor, ev_aug, ev_trng1, ev_trng2, ev_revE, ev_idxF, ev_pop, R.bind_ok, R.out_ok, Option.bind_some, List.getElem?_cons_succ, List.getElem?_cons_zero, List.set_cons_succ, List.set_cons_zero, List.length_cons, List.length_nil, Nat.reduceAdd, Nat.reduceEqDiff, List.getD_cons_succ, List.getD_cons_zero, decide_true, decide_false, Bool.and_true, Bool.and_self, and_self, true_and, List.all_cons, List.all_nil, Bool.not_true, Bool.not_false, if_true, Bool.true_eq_false, Bool.false_eq_true, if_false, g2, g3, hz, ne_str]
  refine EndR.seq ef ?_
  simp only [ev_name, ev_c, ev_op2, ev_op1, ev_toR1, ev_toRL1, ev_nil, ev_cons, ev_opn, ev_opnN, ev_tup, ev_lst, ev_lstN, ev_new, ev_tst, ev_notT, ev_andT, ev_orT, ev_notF, ev_andF, ev_orF, ev_ifF, ev_yes, ev_iter, ev_rng1, ev_rng2, ev_rngW, ev_noP, ev_sl, ev_part, ev_next, ev_noG, ev_seq, ev_drop, ev_ret, ev_retN, ev_if, ev_asg, ev_setA, ev_nilA, ev_consA, ev_seqT, ev_seqL, ev_setN, ev_ok, ev_ioV, ev_ioU, ev_ioW, ev_owV, ev_owU, ev_own, ev_put, ev_ixOwn, ev_lenOwn, ev_setIx, ev_comp, ev_compL0, ev_compL1, ev_okC, ev_wipe1, ev_wipe0, ev_rest1, ev_rest0, ev_call, ev_callN, ev_ofr, ev_ofn, ev_ofnN, ev_mut, ev_mdl, ev_mdi, ev_io, ev_addI, ev_subI, ev_negI, ev_cmpI, ev_eqI, ev_neI, ev_eqS, ev_neS, ev_intI, ev_intB, ev_absI, ev_lenL, ev_lenT, ev_ixL, ev_ixT, ev_at0, ev_at1, ev_at2, ev_i30, ev_i31, ev_i32, ev_pk1, ev_pk2, ev_pk3, ev_pk4, ev_pkw1, ev_pkw2, ev_pkv2, ev_isI, ev_isN, ev_isB, ev_inI, ev_inN, ev_inB, ev_listT, ev_listL, ev_tupT, ev_tupL, ev_fld, ev_insAt, ev_fldOwn, ev_fldG, ev_meth, ev_make, ev_callL, ev_noLI, ev_nilL, ev_nameL, ev_lendL, ev_conL, ev_augIx, ev_putAt, ev_iadd, ev_isub, ev_revT, ev_enum, ev_zip, ev_seqDL, ev_seqDT, ev_nilM, ev_vaM, ev_owM, ev_parM, ev_app, ev_par, ev_par3, ev_lam, ev_ra, ev_xfld, ev_isX, ev_isX_non, ev_hd_found, ev_hd_ret, ev_hd_expr, ev_hd_er, ev_outV, ev_outVn, ev_makeK, ev_band, ev_bxor, ev_bor, ev_aug, ev_trng1, ev_trng2, ev_revE, ev_idxF, ev_pop, R.bind_ok, R.out_ok, Option.bind_some, List.getElem?_cons_succ, List.getElem?_cons_zero, List.set_cons_succ, List.set_cons_zero, List.length_cons, List.length_nil, Nat.reduceAdd, Nat.reduceEqDiff, List.getD_cons_succ, List.getD_cons_zero, decide_true, decide_false, Bool.and_true, Bool.and_self, and_self, true_and, List.all_cons, List.all_nil, Bool.not_true, Bool.not_false, if_true, Bool.true_eq_false, Bool.false_eq_true, if_false, a1, g4, hdd]
  exact ⟨_, rfl, rfl⟩
/-! ### what is refused -/
def bads : List D := [.non, .int (-1), .bl true, .str "4", .tup [.int 1], .int (-(10 ^ 30))]
def nones : List D := [.non, .int 5, .str "12", .dic [] [], .bl true]
abbrev xR (d : D) : XD := ⟨"BadRow", [("at", d)]⟩
abbrev row4 : List D := [.int 3, .int 0, .int (10 ^ 20), .int 7]
theorem none_b {o : D} (h : o ∈ nones) : F_best_parameter [o] = .er (xR .non) (.l []) := by
  simp only [nones, List.mem_cons, List.not_mem_nil, or_false] at h
  rcases h with rfl | rfl | rfl | rfl | rfl <;> rfl
theorem put_in {o : D} {r : Int} (ho : o ∈ bads) (r0 : 0 ≤ r) (r1 : r < 5) : ∃ a b c d, slD (.lst row4) none (some r) = some (.lst a) ∧ slD (.lst row4) (some r) none = some (.lst b) ∧ addD (.lst a) (.lst [o]) = some (.lst c) ∧ addD (.lst c) (.lst b) = some (.lst d) ∧ F_best_parameter [.lst d] = .er (xR (.int r)) (.l []) := by
  simp only [bads, List.mem_cons, List.not_mem_nil, or_false] at ho
  have : r = 0 ∨ r = 1 ∨ r = 2 ∨ r = 3 ∨ r = 4 := by omega
  rcases this with rfl | rfl | rfl | rfl | rfl <;> refine ⟨_, _, _, _, rfl, rfl, rfl, rfl, ?_⟩ <;> rcases ho with rfl | rfl | rfl | rfl | rfl | rfl <;> rfl
theorem heardR {d : D} : H__law_heard (.inr (xR d)) = some (.tup [.str "row", d]) := by
  have s2 : (2 ≤ sizeLine) = True := szA (by decide)
  have e : H__law_heard (.inr (xR d)) = outV (gr__law_heard [.un, .va .non, .va (.exc "BadRow" [("at", d)]), .un]) := rfl
  rw [e]
  have i0 : isiXD ["BadNumber"] ["BadRow"] (.exc "BadRow" [("at", d)]) = some (.bl false) := rfl
  have i1 : isiXD [] ["BadNumber", "BadRow"] (.exc "BadRow" [("at", d)]) = some (.bl false) := rfl
  have i2 : isiXD ["BadRow"] ["BadNumber"] (.exc "BadRow" [("at", d)]) = some (.bl true) := rfl
  have f1 : xfldF ["BadRow"] "at" (nameF 2) [.un, .va .non, .va (.exc "BadRow" [("at", d)]), .un] = .ok d [.un, .va .non, .va (.exc "BadRow" [("at", d)]), .un] := rfl
  simp only [gr__law_heard, ev_name, ev_c, ev_op2, ev_op1, ev_toR1, ev_toRL1, ev_nil, ev_cons, ev_opn, ev_opnN, ev_tup, ev_lst, ev_lstN, ev_new, ev_tst, ev_notT, ev_andT, ev_orT, ev_notF, ev_andF, ev_orF, ev_ifF, ev_yes, ev_iter, ev_rng1, ev_rng2, ev_rngW, ev_noP, ev_sl, ev_part, ev_next, ev_noG, ev_seq, ev_drop, ev_ret, ev_retN, ev_if, ev_asg, ev_setA, ev_nilA, ev_consA, ev_seqT, ev_seqL, ev_setN, ev_ok, ev_ioV, ev_ioU, ev_ioW, ev_owV, ev_owU, ev_own, ev_put, ev_ixOwn, ev_lenOwn, ev_setIx, ev_okC, ev_wipe1, ev_wipe0, ev_rest1, ev_rest0, ev_call, ev_callN, ev_ofr, ev_ofn, ev_ofnN, ev_mut, ev_mdl, ev_mdi, ev_io, ev_addI, ev_subI, ev_negI, ev_cmpI, ev_eqI, ev_neI, ev_eqS, ev_neS, ev_intI, ev_intB, ev_absI, ev_lenL, ev_lenT, ev_ixL, ev_ixT, ev_at0, ev_at1, ev_at2, ev_i30, ev_i31, ev_i32, ev_pk1, ev_pk2, ev_pk3, ev_pk4, ev_pkw1, ev_pkw2, ev_pkv2, ev_isI, ev_isN, ev_isB, ev_inI, ev_inN, ev_inB, ev_listT, ev_listL, ev_tupT, ev_tupL, ev_insAt, ev_fldOwn, ev_fldG, ev_meth, ev_make, ev_callL, ev_noLI, ev_nilL, ev_nameL, ev_lendL, ev_conL, ev_augIx, ev_putAt, ev_iadd, ev_isub, ev_revT, ev_enum, ev_zip, ev_seqDL, ev_seqDT, ev_nilM, ev_vaM, ev_owM, ev_parM, ev_app, ev_par, ev_par3, ev_lam, ev_ra, ev_isX, ev_isX_non, ev_hd_found, ev_hd_ret, ev_hd_expr, ev_hd_er, ev_outV, ev_outVn, ev_makeK, ev_band, ev_bxor, ev_bor, ev_aug, ev_trng1, ev_trng2, ev_revE, ev_idxF, ev_pop, R.bind_ok, R.out_ok, Option.bind_some, List.getElem?_cons_succ, List.getElem?_cons_zero, List.set_cons_succ, List.set_cons_zero, List.length_cons, List.length_nil, Nat.reduceAdd, Nat.reduceEqDiff, List.getD_cons_succ, List.getD_cons_zero, decide_true, decide_false, Bool.and_true, Bool.and_self, and_self, true_and, List.all_cons, List.all_nil, Bool.not_true, Bool.not_false, if_true, Bool.true_eq_false, Bool.false_eq_true, if_false, i0, i1, i2, f1, s2]
theorem refused {b : Nat} {P : List D} (h : Pen b P) (hb : b < 2 ^ 18) : ∃ P', F__law_refused_right [.lst P] = .ret (.bl true) (.l P') ∧ Pen (b + 4) P' := by
  obtain ⟨r, P1, e1, r0, r1, h1⟩ := draw (m := 5) h (by omega) (by decide) (by decide)
  obtain ⟨o, P2, e2, ho, h2⟩ := one (xs := bads) h1 (by omega) (by simp [bads]) (by simp [bads])
  obtain ⟨o2, P3, e3, hr, h3⟩ := one (xs := nones) h2 (by omega) (by simp [nones]) (by simp [nones])
  obtain ⟨la, lb, lc, ld, f1, f2, f3, f4, f5⟩ := put_in ho r0 r1
  have g4 := none_b hr
  have s1 : (1 ≤ sizeLine) = True := szA (by decide)
  have s2 : (2 ≤ sizeLine) = True := szA (by decide)
  have s4 : (4 ≤ sizeLine) = True := szA (by decide)
  have s5 : (5 ≤ sizeLine) = True := szA (by decide)
  have s6 : (6 ≤ sizeLine) = True := szA (by decide)
  have v1 : (1 < sizeLine) = True := szB (by decide)
  have p30 : powD (.int 10) (.int 30) = some (.int (10 ^ 30)) := rfl
  have p20 : powD (.int 10) (.int 20) = some (.int (10 ^ 20)) := rfl
  have u3 : eqD (.lst [.tup [.str "row", .int r], .tup [.str "row", .non]]) (.lst [.tup [.str "row", .int r], .tup [.str "row", .non]]) = some (.bl true) := by
    have : r = 0 ∨ r = 1 ∨ r = 2 ∨ r = 3 ∨ r = 4 := by omega
    rcases this with rfl | rfl | rfl | rfl | rfl <;> exact eqL (by decide +kernel) (Nat.le_of_ble_eq_true rfl)
  have w2 : F__law_one [.lst P1, .lst [.non, .int (-1), .bl true, .str "4", .tup [.int 1], .int (-(10 ^ 30))]] = .ret o (.l P2) := e2
  have w3 : F__law_one [.lst P2, .lst [.non, .int 5, .str "12", .dic [] [], .bl true]] = .ret o2 (.l P3) := e3
  refine ⟨P3, ?_, h3.mono (by omega)⟩
  show outF true (g__law_refused_right [.io (.l P), .un, .un, .un, .un]) = _
  unfold g__law_refused_right
  generalize F_best_parameter = A1 at g4 f5 ⊢
  refine EndR.out (EndR.seq (s1 := [.io (.l P1), .va (.lst row4), .va (.int r), .un, .un]) ?_ ?_)
  · simp only [ev_name, ev_c, ev_op2, ev_op1, ev_toR1, ev_toRL1, ev_nil, ev_cons, ev_opn, ev_opnN, ev_tup, ev_lst, ev_lstN, ev_new, ev_tst, ev_notT, ev_andT, ev_orT, ev_notF, ev_andF, ev_orF, ev_ifF, ev_yes, ev_iter, ev_rng1, ev_rng2, ev_rngW, ev_noP, ev_sl, ev_part, ev_next, ev_noG, ev_seq, ev_drop, ev_ret, ev_retN, ev_if, ev_asg, ev_setA, ev_nilA, ev_consA, ev_seqT, ev_seqL, ev_setN, ev_ok, ev_ioV, ev_ioU, ev_ioW, ev_owV, ev_owU, ev_own, ev_put, ev_ixOwn, ev_lenOwn, ev_setIx, ev_comp, ev_compL0, ev_compL1, ev_okC, ev_wipe1, ev_wipe0, ev_rest1, ev_rest0, ev_call, ev_callN, ev_ofr, ev_ofn, ev_ofnN, ev_mut, ev_mdl, ev_mdi, ev_io, ev_addI, ev_subI, ev_negI, ev_cmpI, ev_eqI, ev_neI, ev_eqS, ev_neS, ev_intI, ev_intB, ev_absI, ev_lenL, ev_lenT, ev_ixL, ev_ixT, ev_at0, ev_at1, ev_at2, ev_i30, ev_i31, ev_i32, ev_pk1, ev_pk2, ev_pk3, ev_pk4, ev_pkw1, ev_pkw2, ev_pkv2, ev_isI, ev_isN, ev_isB, ev_inI, ev_inN, ev_inB, ev_listT, ev_listL, ev_tupT, ev_tupL, ev_fld, ev_insAt, ev_fldOwn, ev_fldG, ev_meth, ev_make, ev_callL, ev_noLI, ev_nilL, ev_nameL, ev_lendL, ev_conL, ev_augIx, ev_putAt, ev_iadd, ev_isub, ev_revT, ev_enum, ev_zip, ev_seqDL, ev_seqDT, ev_nilM, ev_vaM, ev_owM, ev_parM, ev_app, ev_par, ev_par3, ev_lam, ev_ra, ev_xfld, ev_isX, ev_isX_non, ev_hd_found, ev_hd_ret, ev_hd_expr, ev_hd_er, ev_outV, ev_outVn, ev_makeK, ev_band, ev_bxor, ev_bor, ev_aug, ev_trng1, ev_trng2, ev_revE, ev_idxF, ev_pop, R.bind_ok, R.out_ok, Option.bind_some, List.getElem?_cons_succ, List.getElem?_cons_zero, List.set_cons_succ, List.set_cons_zero, List.length_cons, List.length_nil, Nat.reduceAdd, Nat.reduceEqDiff, List.getD_cons_succ, List.getD_cons_zero, decide_true, decide_false, Bool.and_true, Bool.and_self, and_self, true_and, List.all_cons, List.all_nil, Bool.not_true, Bool.not_false, if_true, Bool.true_eq_false, Bool.false_eq_true, if_false, p20, e1, s4]
  refine EndR.seq (s1 := [.io (.l P2), .va (.lst row4), .va (.int r), .un, .va (.lst ld)]) ?_ ?_
  · simp only [ev_name, ev_c, ev_op2, ev_op1, ev_toR1, ev_toRL1, ev_nil, ev_cons, ev_opn, ev_opnN, ev_tup, ev_lst, ev_lstN, ev_new, ev_tst, ev_notT, ev_andT, ev_orT, ev_notF, ev_andF, ev_orF, ev_ifF, ev_yes, ev_iter, ev_rng1, ev_rng2, ev_rngW, ev_noP, ev_sl, ev_part, ev_next, ev_noG, ev_seq, ev_drop, ev_ret, ev_retN, ev_if, ev_asg, ev_setA, ev_nilA, ev_consA, ev_seqT, ev_seqL, ev_setN, ev_ok, ev_ioV, ev_ioU, ev_ioW, ev_owV, ev_owU, ev_own, ev_put, ev_ixOwn, ev_lenOwn, ev_setIx, ev_comp, ev_compL0, ev_compL1, ev_okC, ev_wipe1, ev_wipe0, ev_rest1, ev_rest0, ev_call, ev_callN, ev_ofr, ev_ofn, ev_ofnN, ev_mut, ev_mdl, ev_mdi, ev_io, ev_addI, ev_subI, ev_negI, ev_cmpI, ev_eqI, ev_neI, ev_eqS, ev_neS, ev_intI, ev_intB, ev_absI, ev_lenL, ev_lenT, ev_ixL, ev_ixT, ev_at0, ev_at1, ev_at2, ev_i30, ev_i31, ev_i32, ev_pk1, ev_pk2, ev_pk3, ev_pk4, ev_pkw1, ev_pkw2, ev_pkv2, ev_isI, ev_isN, ev_isB, ev_inI, ev_inN, ev_inB, ev_listT, ev_listL, ev_tupT, ev_tupL, ev_fld, ev_insAt, ev_fldOwn, ev_fldG, ev_meth, ev_make, ev_callL, ev_noLI, ev_nilL, ev_nameL, ev_lendL, ev_conL, ev_augIx, ev_putAt, ev_iadd, ev_isub, ev_revT, ev_enum, ev_zip, ev_seqDL, ev_seqDT, ev_nilM, ev_vaM, ev_owM, ev_parM, ev_app, ev_par, ev_par3, ev_lam, ev_ra, ev_xfld, ev_isX, ev_isX_non, ev_hd_found, ev_hd_ret, ev_hd_expr, ev_hd_er, ev_outV, ev_outVn, ev_makeK, ev_band, ev_bxor, ev_bor, ev_aug, ev_trng1, ev_trng2, ev_revE, ev_idxF, ev_pop, R.bind_ok, R.out_ok, Option.bind_some, List.getElem?_cons_succ, List.getElem?_cons_zero, List.set_cons_succ, List.set_cons_zero, List.length_cons, List.length_nil, Nat.reduceAdd, Nat.reduceEqDiff, List.getD_cons_succ, List.getD_cons_zero, decide_true, decide_false, Bool.and_true, Bool.and_self, and_self, true_and, List.all_cons, List.all_nil, Bool.not_true, Bool.not_false, if_true, Bool.true_eq_false, Bool.false_eq_true, if_false, p30, w2, s6, s1, f1, f2, f3, f4]
  simp only [ev_name, ev_c, ev_op2, ev_op1, ev_toR1, ev_toRL1, ev_nil, ev_cons, ev_opn, ev_opnN, ev_tup, ev_lst, ev_lstN, ev_new, ev_tst, ev_notT, ev_andT, ev_orT, ev_notF, ev_andF, ev_orF, ev_ifF, ev_yes, ev_iter, ev_rng1, ev_rng2, ev_rngW, ev_noP, ev_sl, ev_part, ev_next, ev_noG, ev_seq, ev_drop, ev_ret, ev_retN, ev_if, ev_asg, ev_setA, ev_nilA, ev_consA, ev_seqT, ev_seqL, ev_setN, ev_ok, ev_ioV, ev_ioU, ev_ioW, ev_owV, ev_owU, ev_own, ev_put, ev_ixOwn, ev_lenOwn, ev_setIx, ev_comp, ev_compL0, ev_compL1, ev_okC, ev_wipe1, ev_wipe0, ev_rest1, ev_rest0, ev_call, ev_callN, ev_ofr, ev_ofn, ev_ofnN, ev_mut, ev_mdl, ev_mdi, ev_io, ev_addI, ev_subI, ev_negI, ev_cmpI, ev_eqI, ev_neI, ev_eqS, ev_neS, ev_intI, ev_intB, ev_absI, ev_lenL, ev_lenT, ev_ixL, ev_ixT, ev_at0, ev_at1, ev_at2, ev_i30, ev_i31, ev_i32, ev_pk1, ev_pk2, ev_pk3, ev_pk4, ev_pkw1, ev_pkw2, ev_pkv2, ev_isI, ev_isN, ev_isB, ev_inI, ev_inN, ev_inB, ev_listT, ev_listL, ev_tupT, ev_tupL, ev_fld, ev_insAt, ev_fldOwn, ev_fldG, ev_meth, ev_make, ev_callL, ev_noLI, ev_nilL, ev_nameL, ev_lendL, ev_conL, ev_augIx, ev_putAt, ev_iadd, ev_isub, ev_revT, ev_enum, ev_zip, ev_seqDL, ev_seqDT, ev_nilM, ev_vaM, ev_owM, ev_parM, ev_app, ev_par, ev_par3, ev_lam, ev_ra, ev_xfld, ev_isX, ev_isX_non, ev_hd_found, ev_hd_ret, ev_hd_expr, ev_hd_er, ev_outV, ev_outVn, ev_makeK, ev_band, ev_bxor, ev_bor, ev_aug, ev_trng1, ev_trng2, ev_revE, ev_idxF, ev_pop, R.bind_ok, R.out_ok, Option.bind_some, List.getElem?_cons_succ, List.getElem?_cons_zero, List.set_cons_succ, List.set_cons_zero, List.length_cons, List.length_nil, Nat.reduceAdd, Nat.reduceEqDiff, List.getD_cons_succ, List.getD_cons_zero, decide_true, decide_false, Bool.and_true, Bool.and_self, and_self, true_and, List.all_cons, List.all_nil, Bool.not_true, Bool.not_false, if_true, Bool.true_eq_false, Bool.false_eq_true, if_false, ofX, List.cons_append, List.nil_append, v1, s1, s2, s5, g4, f5, w3, heardR, u3]
  exact ⟨_, rfl, rfl⟩
/-! ### the law -/
theorem evens : ∀ e : Nat, e < 19 → (e < 2 ∨ bi (szs [2 ^ e]) = (e : Int) - 1) := by decide +kernel
theorem even_e {e : Int} (e0 : 2 ≤ e) (e1 : e < 19) : ∃ i, F__law_power [.int e] = .ret (.int i) (.l []) ∧ F_best_parameter [.lst [.int i]] = .ret (.int (e - 1)) (.l []) := by
  obtain ⟨k, rfl⟩ : ∃ k : Nat, e = (k : Int) := ⟨e.toNat, by omega⟩
  obtain ⟨i, h1, h2⟩ := powerE k (by omega) (by omega)
  refine ⟨i, h1, ?_⟩
  rw [Int.toNat_natCast] at h2
  have hn : Nm i := by
    rw [h2]
    refine ⟨Int.le_of_lt (Int.pow_pos (by decide)), ?_⟩
    have := Nat.pow_lt_pow_right (a := 2) (m := k) (n := 131) (by decide) (by omega)
    exact_mod_cast this
  have h3 := best (x := .lst [.int i]) (ms := [i]) (.inl rfl) ⟨by show 1 ≤ 1000; decide, fun n hn' => by rw [List.mem_singleton.mp hn']; exact hn⟩
  rw [h3]
  rcases evens k (by omega) with h4 | h4
  · omega
  · rw [h2, h4]
def lo (j f : Int) : Int := (j * j * 7919 + j) % f
theorem lo_e {x f : Int} (h0 : 0 ≤ x) (h : x < 300) (f0 : 0 < f) {s : List Sl} {x7 : Sl} (h3 : s[3]? = some (.va (.int f))) (h7 : s[7]? = some x7) : op2F modD (opnF intD (consF (op2F addD (op2F mulD (op2F mulD (nameF 7) (nameF 7)) (cF (.int 7919))) (nameF 7)) nilF)) (nameF 3) (s.set 7 (.va (.int x))) = .ok (.int (lo x f)) (s.set 7 (.va (.int x))) := by
  have hlt := (List.getElem?_eq_some_iff.mp h7).1
  have h3' : (s.set 7 (.va (.int x)))[3]? = some (.va (.int f)) := by rw [List.getElem?_set_ne (by decide)]; exact h3
  have e1 : (-(2 ^ 64) < x ∧ x < 2 ^ 64) := by omega
  have a1 : mulD (.int x) (.int x) = some (.int (x * x)) := ev_mulS (.inl e1)
  have a2 : mulD (.int (x * x)) (.int 7919) = some (.int (x * x * 7919)) := ev_mulS (.inr ⟨by decide, by decide⟩)
  have a3 : ∀ i : Int, modD (.int i) (.int f) = some (.int (i % f)) := fun i => ev_modI f0
  simp only [ev_name, ev_c, ev_op2, ev_op1, ev_toR1, ev_toRL1, ev_nil, ev_cons, ev_opn, ev_opnN, ev_tup, ev_lst, ev_lstN, ev_new, ev_tst, ev_notT, ev_andT, ev_orT, ev_notF, ev_andF, ev_orF, ev_ifF, ev_yes, ev_iter, ev_rng1, ev_rng2, ev_rngW, ev_noP, ev_sl, ev_part, ev_next, ev_noG, ev_seq, ev_drop, ev_ret, ev_retN, ev_if, ev_asg, ev_setA, ev_nilA, ev_consA, ev_seqT, ev_seqL, ev_setN, ev_ok, ev_ioV, ev_ioU, ev_ioW, ev_owV, ev_owU, ev_own, ev_put, ev_ixOwn, ev_lenOwn, ev_setIx, ev_okC, ev_wipe1, ev_wipe0, ev_rest1, ev_rest0, ev_call, ev_callN, ev_ofr, ev_ofn, ev_ofnN, ev_mut, ev_mdl, ev_mdi, ev_io, ev_addI, ev_subI, ev_negI, ev_cmpI, ev_eqI, ev_neI, ev_eqS, ev_neS, ev_intI, ev_intB, ev_absI, ev_lenL, ev_lenT, ev_ixL, ev_ixT, ev_at0, ev_at1, ev_at2, ev_i30, ev_i31, ev_i32, ev_pk1, ev_pk2, ev_pk3, ev_pk4, ev_pkw1, ev_pkw2, ev_pkv2, ev_isI, ev_isN, ev_isB, ev_inI, ev_inN, ev_inB, ev_listT, ev_listL, ev_tupT, ev_tupL, ev_fld, ev_insAt, ev_fldOwn, ev_fldG, ev_meth, ev_make, ev_callL, ev_noLI, ev_nilL, ev_nameL, ev_lendL, ev_conL, ev_augIx, ev_putAt, ev_iadd, ev_isub, ev_revT, ev_enum, ev_zip, ev_seqDL, ev_seqDT, ev_nilM, ev_vaM, ev_owM, ev_parM, ev_app, ev_par, ev_par3, ev_lam, ev_ra, ev_xfld, ev_isX, ev_isX_non, ev_hd_found, ev_hd_ret, ev_hd_expr, ev_hd_er, ev_outV, ev_outVn, ev_makeK, ev_band, ev_bxor, ev_bor, ev_aug, ev_trng1, ev_trng2, ev_revE, ev_idxF, ev_pop, R.bind_ok, R.out_ok, Option.bind_some, List.getElem?_cons_succ, List.getElem?_cons_zero, List.set_cons_succ, List.set_cons_zero, List.length_cons, List.length_nil, Nat.reduceAdd, Nat.reduceEqDiff, List.getD_cons_succ, List.getD_cons_zero, decide_true, decide_false, Bool.and_true, Bool.and_self, and_self, true_and, List.all_cons, List.all_nil, Bool.not_true, Bool.not_false, if_true, Bool.true_eq_false, Bool.false_eq_true, if_false, List.getElem?_set_self hlt, h3', a1, a2, a3]
  rfl
theorem long {b : Nat} {P : List D} {f : Int} {x0 x2 x4 x5 x6 x7 : Sl} (hP : Pen b P) (hb : b < 2 ^ 18) (f0 : 0 < f) (f1 : f < 6000) (p7 : Pl x7) :
    ∃ (ms : List Int) (P' : List D), compN (rng1F (op2F addD (cF (.int 60)) (callIoF F__law_draw 2 1 (consF (cF (.int 200)) nilF)))) [7] (setA 7) yesT (op2F modD (opnF intD (consF (op2F addD (op2F mulD (op2F mulD (nameF 7) (nameF 7)) (cF (.int 7919))) (nameF 7)) nilF)) (nameF 3)) [x0, .ow (.l P), x2, .va (.int f), x4, x5, x6, x7]
      = .ok (ms.map D.int) [x0, .ow (.l P'), x2, .va (.int f), x4, x5, x6, x7] ∧ ms.length ≤ 300 ∧ (∀ m ∈ ms, Nm m) ∧ Pen (b + 1) P' := by
  obtain ⟨r, P0, e0, r0, r1, h0⟩ := draw (m := 200) hP (by omega) (by decide) (by decide)
  have sm : sm62 (60 + r) = true := sm_of (by omega) (by omega)
  refine ⟨(intsR 0 (60 + r)).map fun j => lo j f, P0, ?_, ?_, ?_, h0⟩
  · rw [List.map_map]
    refine compN_src1 D.int (fun j => D.int (lo j f)) (xs := intsR 0 (60 + r)) ?_ ?_ (y0 := x7) rfl p7 rfl fun x hx => ?_
    · rw [← rngD_ints]
      exact rng1E (by simp only [ev_name, ev_c, ev_op2, ev_op1, ev_toR1, ev_toRL1, ev_nil, ev_cons, ev_opn, ev_opnN, ev_tup, ev_lst, ev_lstN, ev_new, ev_tst, ev_notT, ev_andT, ev_orT, ev_notF, ev_andF, ev_orF, ev_ifF, ev_yes, ev_iter, ev_rng1, ev_rng2, ev_rngW, ev_noP, ev_sl, ev_part, ev_next, ev_noG, ev_seq, ev_drop, ev_ret, ev_retN, ev_if, ev_asg, ev_setA, ev_nilA, ev_consA, ev_seqT, ev_seqL, ev_setN, ev_ok, ev_ioV, ev_ioU, ev_ioW, ev_owV, ev_owU, ev_own, ev_put, ev_ixOwn, ev_lenOwn, ev_setIx, ev_okC, ev_wipe1, ev_wipe0, ev_rest1, ev_rest0, ev_call, ev_callN, ev_ofr, ev_ofn, ev_ofnN, ev_mut, ev_mdl, ev_mdi, ev_io, ev_addI, ev_subI, ev_negI, ev_cmpI, ev_eqI, ev_neI, ev_eqS, ev_neS, ev_intI, ev_intB, ev_absI, ev_lenL, ev_lenT, ev_ixL, ev_ixT, ev_at0, ev_at1, ev_at2, ev_i30, ev_i31, ev_i32, ev_pk1, ev_pk2, ev_pk3, ev_pk4, ev_pkw1, ev_pkw2, ev_pkv2, ev_isI, ev_isN, ev_isB, ev_inI, ev_inN, ev_inB, ev_listT, ev_listL, ev_tupT, ev_tupL, ev_fld, ev_insAt, ev_fldOwn, ev_fldG, ev_meth, ev_make, ev_callL, ev_noLI, ev_nilL, ev_nameL, ev_lendL, ev_conL, ev_augIx, ev_putAt, ev_iadd, ev_isub, ev_revT, ev_enum, ev_zip, ev_seqDL, ev_seqDT, ev_nilM, ev_vaM, ev_owM, ev_parM, ev_app, ev_par, ev_par3, ev_lam, ev_ra, ev_xfld, ev_isX, ev_isX_non, ev_hd_found, ev_hd_ret, ev_hd_expr, ev_hd_er, ev_outV, ev_outVn, ev_makeK, ev_band, ev_bxor, ev_bor, ev_aug, ev_trng1, ev_trng2, ev_revE, ev_idxF, ev_pop, R.bind_ok, R.out_ok, Option.bind_some, List.getElem?_cons_succ, List.getElem?_cons_zero, List.set_cons_succ, List.set_cons_zero, List.length_cons, List.length_nil, Nat.reduceAdd, Nat.reduceEqDiff, List.getD_cons_succ, List.getD_cons_zero, decide_true, decide_false, Bool.and_true, Bool.and_self, and_self, true_and, List.all_cons, List.all_nil, Bool.not_true, Bool.not_false, if_true, Bool.true_eq_false, Bool.false_eq_true, if_false, e0]) sm
    · rw [ints_len, sizeLine_eq]
      omega
    · unfold intsR at hx
      obtain ⟨j, hj, rfl⟩ := List.mem_map.mp hx
      rw [List.mem_range] at hj
      exact lo_e (by omega) (by omega) f0 rfl rfl
  · rw [List.length_map, ints_len]
    omega
  · intro m hm
    obtain ⟨j, _, rfl⟩ := List.mem_map.mp hm
    have h1 := Int.emod_nonneg (j * j * 7919 + j) (show f ≠ 0 by omega)
    have h2 := Int.emod_lt_of_pos (j * j * 7919 + j) f0
    show 0 ≤ (j * j * 7919 + j) % f ∧ (j * j * 7919 + j) % f < 2 ^ 131
    omega
theorem one1 : F_best_parameter [.lst [.int 1]] = .ret (.int 0) (.l []) := by
  have h := best (x := .lst [.int 1]) (ms := [1]) (.inl rfl) ⟨by decide, fun n hn => by rw [List.mem_singleton.mp hn]; decide⟩
  rw [h, show bi (szs [1]) = 0 by decide +kernel]
theorem one30 : F_best_parameter [.lst [.int (2 ^ 30)]] = .ret (.int 20) (.l []) := by
  have h := best (x := .lst [.int (2 ^ 30)]) (ms := [2 ^ 30]) (.inl rfl) ⟨by decide, fun n hn => by rw [List.mem_singleton.mp hn]; decide⟩
  rw [h, show bi (szs [2 ^ 30]) = 20 by decide +kernel]
theorem one0 : F_best_parameter [.tup []] = .ret (.int 0) (.l []) := by
  have h := best (x := .tup []) (ms := []) (.inr rfl) ⟨by decide, fun n hn => absurd hn List.not_mem_nil⟩
  rw [h, show bi (szs []) = 0 by decide +kernel]
theorem law_true (ns : List Int) (h : ns.length ≤ 63) : F_law [.fz (ns.map .int)] = .ret (.bl true) (.l []) := by
  obtain ⟨s', e, P1, x2, rfl, h1, q2⟩ := forL_run (a := setA 2) (G1 := g_law_b1) (I := fun m s' => ∃ P' x2, s' = [.va (.fz (ns.map .int)), .ow (.l P'), x2, .un, .un, .un, .un, .un] ∧ Pen (30 * m) P' ∧ Pl x2)
    (rngD 0 5) 0 [.va (.fz (ns.map .int)), .ow (.l [.lst (ns.map D.int), .int 0, .int 0]), .un, .un, .un, .un, .un, .un] ⟨[.lst (ns.map D.int), .int 0, .int 0], .un, rfl, ⟨ns, 0, 0, rfl, h, by decide, by decide⟩, Pl.un⟩ fun j d s' e i => by
      obtain ⟨P', x2, rfl, hP, q2⟩ := i
      have hj := (List.getElem?_eq_some_iff.mp e).1
      rw [rngD_length] at hj
      obtain ⟨P1, e1, hP1⟩ := right hP (by omega)
      obtain ⟨P2, e2, hP2⟩ := refused hP1 (by omega)
      refine ⟨[.va (.fz (ns.map .int)), .ow (.l P'), .va d, .un, .un, .un, .un, .un], [.va (.fz (ns.map .int)), .ow (.l P2), .va d, .un, .un, .un, .un, .un], ?_, .inl ?_, P2, .va d, rfl, hP2.mono (by omega), Pl.va⟩
      · simp only [ev_name, ev_c, ev_op2, ev_op1, ev_toR1, ev_toRL1, ev_nil, ev_cons, ev_opn, ev_opnN, ev_tup, ev_lst, ev_lstN, ev_new, ev_tst, ev_notT, ev_andT, ev_orT, ev_notF, ev_andF, ev_orF, ev_ifF, ev_yes, ev_iter, ev_rng1, ev_rng2, ev_rngW, ev_noP, ev_sl, ev_part, ev_next, ev_noG, ev_seq, ev_drop, ev_ret, ev_retN, ev_if, ev_asg, ev_setA, ev_nilA, ev_consA, ev_seqT, ev_seqL, ev_setN, ev_ok, ev_ioV, ev_ioU, ev_ioW, ev_owV, ev_owU, ev_own, ev_put, ev_ixOwn, ev_lenOwn, ev_setIx, ev_comp, ev_compL0, ev_compL1, ev_okC, ev_wipe1, ev_wipe0, ev_rest1, ev_rest0, ev_call, ev_callN, ev_ofr, ev_ofn, ev_ofnN, ev_mut, ev_mdl, ev_mdi, ev_io, ev_addI, ev_subI, ev_negI, ev_cmpI, ev_eqI, ev_neI, ev_eqS, ev_neS, ev_intI, ev_intB, ev_absI, ev_lenL, ev_lenT, ev_ixL, ev_ixT, ev_at0, ev_at1, ev_at2, ev_i30, ev_i31, ev_i32, ev_pk1, ev_pk2, ev_pk3, ev_pk4, ev_pkw1, ev_pkw2, ev_pkv2, ev_isI, ev_isN, ev_isB, ev_inI, ev_inN, ev_inB, ev_listT, ev_listL, ev_tupT, ev_tupL, ev_fld, ev_insAt, ev_fldOwn, ev_fldG, ev_meth, ev_make, ev_callL, ev_noLI, ev_nilL, ev_nameL, ev_lendL, ev_conL, ev_augIx, ev_putAt, ev_iadd, ev_isub, ev_revT, ev_enum, ev_zip, ev_seqDL, ev_seqDT, ev_nilM, ev_vaM, ev_owM, ev_parM, ev_app, ev_par, ev_par3, ev_lam, ev_ra, ev_xfld, ev_isX, ev_isX_non, ev_hd_found, ev_hd_ret, ev_hd_expr, ev_hd_er, ev_outV, ev_outVn, ev_makeK, ev_band, ev_bxor, ev_bor, ev_aug, ev_trng1, ev_trng2, ev_revE, ev_idxF, ev_pop, R.bind_ok, R.out_ok, Option.bind_some, List.getElem?_cons_succ, List.getElem?_cons_zero, List.set_cons_succ, List.set_cons_zero, List.length_cons, List.length_nil, Nat.reduceAdd, Nat.reduceEqDiff, List.getD_cons_succ, List.getD_cons_zero, decide_true, decide_false, Bool.and_true, Bool.and_self, and_self, true_and, List.all_cons, List.all_nil, Bool.not_true, Bool.not_false, if_true, Bool.true_eq_false, Bool.false_eq_true, if_false, q2.1]
      · simp only [g_law_b1, ev_name, ev_c, ev_op2, ev_op1, ev_toR1, ev_toRL1, ev_nil, ev_cons, ev_opn, ev_opnN, ev_tup, ev_lst, ev_lstN, ev_new, ev_tst, ev_notT, ev_andT, ev_orT, ev_notF, ev_andF, ev_orF, ev_ifF, ev_yes, ev_iter, ev_rng1, ev_rng2, ev_rngW, ev_noP, ev_sl, ev_part, ev_next, ev_noG, ev_seq, ev_drop, ev_ret, ev_retN, ev_if, ev_asg, ev_setA, ev_nilA, ev_consA, ev_seqT, ev_seqL, ev_setN, ev_ok, ev_ioV, ev_ioU, ev_ioW, ev_owV, ev_owU, ev_own, ev_put, ev_ixOwn, ev_lenOwn, ev_setIx, ev_comp, ev_compL0, ev_compL1, ev_okC, ev_wipe1, ev_wipe0, ev_rest1, ev_rest0, ev_call, ev_callN, ev_ofr, ev_ofn, ev_ofnN, ev_mut, ev_mdl, ev_mdi, ev_io, ev_addI, ev_subI, ev_negI, ev_cmpI, ev_eqI, ev_neI, ev_eqS, ev_neS, ev_intI, ev_intB, ev_absI, ev_lenL, ev_lenT, ev_ixL, ev_ixT, ev_at0, ev_at1, ev_at2, ev_i30, ev_i31, ev_i32, ev_pk1, ev_pk2, ev_pk3, ev_pk4, ev_pkw1, ev_pkw2, ev_pkv2, ev_isI, ev_isN, ev_isB, ev_inI, ev_inN, ev_inB, ev_listT, ev_listL, ev_tupT, ev_tupL, ev_fld, ev_insAt, ev_fldOwn, ev_fldG, ev_meth, ev_make, ev_callL, ev_noLI, ev_nilL, ev_nameL, ev_lendL, ev_conL, ev_augIx, ev_putAt, ev_iadd, ev_isub, ev_revT, ev_enum, ev_zip, ev_seqDL, ev_seqDT, ev_nilM, ev_vaM, ev_owM, ev_parM, ev_app, ev_par, ev_par3, ev_lam, ev_ra, ev_xfld, ev_isX, ev_isX_non, ev_hd_found, ev_hd_ret, ev_hd_expr, ev_hd_er, ev_outV, ev_outVn, ev_makeK, ev_band, ev_bxor, ev_bor, ev_aug, ev_trng1, ev_trng2, ev_revE, ev_idxF, ev_pop, R.bind_ok, R.out_ok, Option.bind_some, List.getElem?_cons_succ, List.getElem?_cons_zero, List.set_cons_succ, List.set_cons_zero, List.length_cons, List.length_nil, Nat.reduceAdd, Nat.reduceEqDiff, List.getD_cons_succ, List.getD_cons_zero, decide_true, decide_false, Bool.and_true, Bool.and_self, and_self, true_and, List.all_cons, List.all_nil, Bool.not_true, Bool.not_false, if_true, Bool.true_eq_false, Bool.false_eq_true, if_false, e1, e2]
  rw [rngD_length, show 0 + ((5 : Int) - 0).toNat = 5 from rfl] at h1
  obtain ⟨r1, P2, e2, a0, a1, h2⟩ := draw (m := 5000) h1 (by omega) (by decide) (by decide)
  obtain ⟨f, hf⟩ : ∃ f : Int, 20 + r1 = f := ⟨_, rfl⟩
  obtain ⟨ms, P3, c1, hl, hn, h3⟩ := long (x0 := .va (.fz (ns.map .int))) (x2 := x2) (x4 := .un) (x5 := .un) (x6 := .un) (f := f) h2 (by omega) (by omega) (by omega) Pl.un
  obtain ⟨r2, P4, e3, b0, b1, h4⟩ := draw (m := 17) h3 (by omega) (by decide) (by decide)
  obtain ⟨v, hv⟩ : ∃ v : Int, 2 + r2 = v := ⟨_, rfl⟩
  obtain ⟨i, k1, k2⟩ := even_e (e := v) (by omega) (by omega)
  have hR : Row ms := ⟨by omega, hn⟩
  have g1 := law_sizes hR
  have g2 := best (x := .lst (ms.map D.int)) (.inl rfl) hR
  have i1 := minE (szs_ne ms)
  have i2 := idxE (szs_ne ms)
  have o0 := one0
  have o1 := one1
  have o30 := one30
  have s1 : (1 ≤ sizeLine) = True := szA (by decide)
  have p30 : powD (.int 2) (.int 30) = some (.int (2 ^ 30)) := rfl
  have n5 : sm62 5 = true := rfl
  have hdd : decide (v - 1 = v - 1) = true := decide_eq_true rfl
  have hz : decide ((0 : Int) = 0) = true := rfl
  have hz20 : decide ((20 : Int) = 20) = true := rfl
  generalize (szs ms).map D.int = S at g1 i1 i2
  generalize hbi : bi (szs ms) = bb at g2 i2
  have hbb : decide (bb = bb) = true := decide_eq_true rfl
  show outF false (g_law [.va (.fz (ns.map .int)), .un, .un, .un, .un, .un, .un, .un]) = _
  unfold g_law
  generalize F_best_parameter = A1 at g2 k2 o0 o1 o30 ⊢
  generalize F__law_sizes = A2 at g1 ⊢
  generalize F__law_power = A3 at k1 ⊢
  refine EndR.out (EndR.seq (s1 := [.va (.fz (ns.map .int)), .ow (.l [.lst (ns.map D.int), .int 0, .int 0]), .un, .un, .un, .un, .un, .un]) ?_ ?_)
  · simp only [ev_name, ev_c, ev_op2, ev_op1, ev_toR1, ev_toRL1, ev_nil, ev_cons, ev_opn, ev_opnN, ev_tup, ev_lst, ev_lstN, ev_new, ev_tst, ev_notT, ev_andT, ev_orT, ev_notF, ev_andF, ev_orF, ev_ifF, ev_yes, ev_iter, ev_rng1, ev_rng2, ev_rngW, ev_noP, ev_sl, ev_part, ev_next, ev_noG, ev_seq, ev_drop, ev_ret, ev_retN, ev_if, ev_asg, ev_setA, ev_nilA, ev_consA, ev_seqT, ev_seqL, ev_setN, ev_ok, ev_ioV, ev_ioU, ev_ioW, ev_owV, ev_owU, ev_own, ev_put, ev_ixOwn, ev_lenOwn, ev_setIx, ev_comp, ev_compL0, ev_compL1, ev_okC, ev_wipe1, ev_wipe0, ev_rest1, ev_rest0, ev_call, ev_callN, ev_ofr, ev_ofn, ev_ofnN, ev_mut, ev_mdl, ev_mdi, ev_io, ev_addI, ev_subI, ev_negI, ev_cmpI, ev_eqI, ev_neI, ev_eqS, ev_neS, ev_intI, ev_intB, ev_absI, ev_lenL, ev_lenT, ev_ixL, ev_ixT, ev_at0, ev_at1, ev_at2, ev_i30, ev_i31, ev_i32, ev_pk1, ev_pk2, ev_pk3, ev_pk4, ev_pkw1, ev_pkw2, ev_pkv2, ev_isI, ev_isN, ev_isB, ev_inI, ev_inN, ev_inB, ev_listT, ev_listL, ev_tupT, ev_tupL, ev_fld, ev_insAt, ev_fldOwn, ev_fldG, ev_meth, ev_make, ev_callL, ev_noLI, ev_nilL, ev_nameL, ev_lendL, ev_conL, ev_augIx, ev_putAt, ev_iadd, ev_isub, ev_revT, ev_enum, ev_zip, ev_seqDL, ev_seqDT, ev_nilM, ev_vaM, ev_owM, ev_parM, ev_app, ev_par, ev_par3, ev_lam, ev_ra, ev_xfld, ev_isX, ev_isX_non, ev_hd_found, ev_hd_ret, ev_hd_expr, ev_hd_er, ev_outV, ev_outVn, ev_makeK, ev_band, ev_bxor, ev_bor, ev_aug, ev_trng1, ev_trng2, ev_revE, ev_idxF, ev_pop, R.bind_ok, R.out_ok, Option.bind_some, List.getElem?_cons_succ, List.getElem?_cons_zero, List.set_cons_succ, List.set_cons_zero, List.length_cons, List.length_nil, Nat.reduceAdd, Nat.reduceEqDiff, List.getD_cons_succ, List.getD_cons_zero, decide_true, decide_false, Bool.and_true, Bool.and_self, and_self, true_and, List.all_cons, List.all_nil, Bool.not_true, Bool.not_false, if_true, Bool.true_eq_false, Bool.false_eq_true, if_false, well0 h]
  refine EndR.seq (s1 := [.va (.fz (ns.map .int)), .ow (.l P1), x2, .un, .un, .un, .un, .un]) ?_ ?_
  · exact forE (rng1E rfl n5) e
  refine EndR.seq (s1 := [.va (.fz (ns.map .int)), .ow (.l P2), x2, .va (.int f), .un, .un, .un, .un]) ?_ ?_
  · simp only [ev_name, ev_c, ev_op2, ev_op1, ev_toR1, ev_toRL1, ev_nil, ev_cons, ev_opn, ev_opnN, ev_tup, ev_lst, ev_lstN, ev_new, ev_tst, ev_notT, ev_andT, ev_orT, ev_notF, ev_andF, ev_orF, ev_ifF, ev_yes, ev_iter, ev_rng1, ev_rng2, ev_rngW, ev_noP, ev_sl, ev_part, ev_next, ev_noG, ev_seq, ev_drop, ev_ret, ev_retN, ev_if, ev_asg, ev_setA, ev_nilA, ev_consA, ev_seqT, ev_seqL, ev_setN, ev_ok, ev_ioV, ev_ioU, ev_ioW, ev_owV, ev_owU, ev_own, ev_put, ev_ixOwn, ev_lenOwn, ev_setIx, ev_okC, ev_wipe1, ev_wipe0, ev_rest1, ev_rest0, ev_call, ev_callN, ev_ofr, ev_ofn, ev_ofnN, ev_mut, ev_mdl, ev_mdi, ev_io, ev_addI, ev_subI, ev_negI, ev_cmpI, ev_eqI, ev_neI, ev_eqS, ev_neS, ev_intI, ev_intB, ev_absI, ev_lenL, ev_lenT, ev_ixL, ev_ixT, ev_at0, ev_at1, ev_at2, ev_i30, ev_i31, ev_i32, ev_pk1, ev_pk2, ev_pk3, ev_pk4, ev_pkw1, ev_pkw2, ev_pkv2, ev_isI, ev_isN, ev_isB, ev_inI, ev_inN, ev_inB, ev_listT, ev_listL, ev_tupT, ev_tupL, ev_fld, ev_insAt, ev_fldOwn, ev_fldG, ev_meth, ev_make, ev_callL, ev_noLI, ev_nilL, ev_nameL, ev_lendL, ev_conL, ev_augIx, ev_putAt, ev_iadd, ev_isub, ev_revT, ev_enum, ev_zip, ev_seqDL, ev_seqDT, ev_nilM, ev_vaM, ev_owM, ev_parM, ev_app, ev_par, ev_par3, ev_lam, ev_ra, ev_xfld, ev_isX, ev_isX_non, ev_hd_found, ev_hd_ret, ev_hd_expr, ev_hd_er, ev_outV, ev_outVn, ev_makeK, ev_band, ev_bxor, ev_bor, ev_aug, ev_trng1, ev_trng2, ev_revE, ev_idxF, ev_pop, R.bind_ok, R.out_ok, Option.bind_some, List.getElem?_cons_succ, List.getElem?_cons_zero, List.set_cons_succ, List.set_cons_zero, List.length_cons, List.length_nil, Nat.reduceAdd, Nat.reduceEqDiff, List.getD_cons_succ, List.getD_cons_zero, decide_true, decide_false, Bool.and_true, Bool.and_self, and_self, true_and, List.all_cons, List.all_nil, Bool.not_true, Bool.not_false, if_true, Bool.true_eq_false, Bool.false_eq_true, if_false, e2, hf]
  refine EndR.seq (s1 := [.va (.fz (ns.map .int)), .ow (.l P3), x2, .va (.int f), .ow (.l (ms.map D.int)), .un, .un, .un]) ?_ ?_
  · simp only [ev_name, ev_c, ev_op2, ev_op1, ev_toR1, ev_toRL1, ev_nil, ev_cons, ev_opn, ev_opnN, ev_tup, ev_lst, ev_lstN, ev_new, ev_tst, ev_notT, ev_andT, ev_orT, ev_notF, ev_andF, ev_orF, ev_ifF, ev_yes, ev_iter, ev_rng1, ev_rng2, ev_rngW, ev_noP, ev_sl, ev_part, ev_next, ev_noG, ev_seq, ev_drop, ev_ret, ev_retN, ev_if, ev_asg, ev_setA, ev_nilA, ev_consA, ev_seqT, ev_seqL, ev_setN, ev_ok, ev_ioV, ev_ioU, ev_ioW, ev_owV, ev_owU, ev_own, ev_put, ev_ixOwn, ev_lenOwn, ev_setIx, ev_okC, ev_wipe1, ev_wipe0, ev_rest1, ev_rest0, ev_call, ev_callN, ev_ofr, ev_ofn, ev_ofnN, ev_mut, ev_mdl, ev_mdi, ev_io, ev_addI, ev_subI, ev_negI, ev_cmpI, ev_eqI, ev_neI, ev_eqS, ev_neS, ev_intI, ev_intB, ev_absI, ev_lenL, ev_lenT, ev_ixL, ev_ixT, ev_at0, ev_at1, ev_at2, ev_i30, ev_i31, ev_i32, ev_pk1, ev_pk2, ev_pk3, ev_pk4, ev_pkw1, ev_pkw2, ev_pkv2, ev_isI, ev_isN, ev_isB, ev_inI, ev_inN, ev_inB, ev_listT, ev_listL, ev_tupT, ev_tupL, ev_fld, ev_insAt, ev_fldOwn, ev_fldG, ev_meth, ev_make, ev_callL, ev_noLI, ev_nilL, ev_nameL, ev_lendL, ev_conL, ev_augIx, ev_putAt, ev_iadd, ev_isub, ev_revT, ev_enum, ev_zip, ev_seqDL, ev_seqDT, ev_nilM, ev_vaM, ev_owM, ev_parM, ev_app, ev_par, ev_par3, ev_lam, ev_ra, ev_xfld, ev_isX, ev_isX_non, ev_hd_found, ev_hd_ret, ev_hd_expr, ev_hd_er, ev_outV, ev_outVn, ev_makeK, ev_band, ev_bxor, ev_bor, ev_aug, ev_trng1, ev_trng2, ev_revE, ev_idxF, ev_pop, R.bind_ok, R.out_ok, Option.bind_some, List.getElem?_cons_succ, List.getElem?_cons_zero, List.set_cons_succ, List.set_cons_zero, List.length_cons, List.length_nil, Nat.reduceAdd, Nat.reduceEqDiff, List.getD_cons_succ, List.getD_cons_zero, decide_true, decide_false, Bool.and_true, Bool.and_self, and_self, true_and, List.all_cons, List.all_nil, Bool.not_true, Bool.not_false, if_true, Bool.true_eq_false, Bool.false_eq_true, if_false, c1]
  refine EndR.seq (s1 := [.va (.fz (ns.map .int)), .ow (.l P3), x2, .va (.int f), .va (.lst (ms.map D.int)), .va (.lst S), .un, .un]) ?_ ?_
  · simp only [ev_name, ev_c, ev_op2, ev_op1, ev_toR1, ev_toRL1, ev_nil, ev_cons, ev_opn, ev_opnN, ev_tup, ev_lst, ev_lstN, ev_new, ev_tst, ev_notT, ev_andT, ev_orT, ev_notF, ev_andF, ev_orF, ev_ifF, ev_yes, ev_iter, ev_rng1, ev_rng2, ev_rngW, ev_noP, ev_sl, ev_part, ev_next, ev_noG, ev_seq, ev_drop, ev_ret, ev_retN, ev_if, ev_asg, ev_setA, ev_nilA, ev_consA, ev_seqT, ev_seqL, ev_setN, ev_ok, ev_ioV, ev_ioU, ev_ioW, ev_owV, ev_owU, ev_own, ev_put, ev_ixOwn, ev_lenOwn, ev_setIx, ev_okC, ev_wipe1, ev_wipe0, ev_rest1, ev_rest0, ev_call, ev_callN, ev_ofr, ev_ofn, ev_ofnN, ev_mut, ev_mdl, ev_mdi, ev_io, ev_addI, ev_subI, ev_negI, ev_cmpI, ev_eqI, ev_neI, ev_eqS, ev_neS, ev_intI, ev_intB, ev_absI, ev_lenL, ev_lenT, ev_ixL, ev_ixT, ev_at0, ev_at1, ev_at2, ev_i30, ev_i31, ev_i32, ev_pk1, ev_pk2, ev_pk3, ev_pk4, ev_pkw1, ev_pkw2, ev_pkv2, ev_isI, ev_isN, ev_isB, ev_inI, ev_inN, ev_inB, ev_listT, ev_listL, ev_tupT, ev_tupL, ev_fld, ev_insAt, ev_fldOwn, ev_fldG, ev_meth, ev_make, ev_callL, ev_noLI, ev_nilL, ev_nameL, ev_lendL, ev_conL, ev_augIx, ev_putAt, ev_iadd, ev_isub, ev_revT, ev_enum, ev_zip, ev_seqDL, ev_seqDT, ev_nilM, ev_vaM, ev_owM, ev_parM, ev_app, ev_par, ev_par3, ev_lam, ev_ra, ev_xfld, ev_isX, ev_isX_non, ev_hd_found, ev_hd_ret, ev_hd_expr, ev_hd_er, ev_outV, ev_outVn, ev_makeK, ev_band, ev_bxor, ev_bor, ev_aug, ev_trng1, ev_trng2, ev_revE, ev_idxF, ev_pop, R.bind_ok, R.out_ok, Option.bind_some, List.getElem?_cons_succ, List.getElem?_cons_zero, List.set_cons_succ, List.set_cons_zero, List.length_cons, List.length_nil, Nat.reduceAdd, Nat.reduceEqDiff, List.getD_cons_succ, List.getD_cons_zero, decide_true, decide_false, Bool.and_true, Bool.and_self, and_self, true_and, List.all_cons, List.all_nil, Bool.not_true, Bool.not_false, if_true, Bool.true_eq_false, Bool.false_eq_true, if_false, g1]
  refine EndR.seq (s1 := [.va (.fz (ns.map .int)), .ow (.l P3), x2, .va (.int f), .va (.lst (ms.map D.int)), .va (.lst S), .un, .un]) ?_ ?_
  · simp only [ev_name, ev_c, ev_op2, ev_op1, ev_toR1, ev_toRL1, ev_nil, ev_cons, ev_opn, ev_opnN, ev_tup, ev_lst, ev_lstN, ev_new, ev_tst, ev_notT, ev_andT, ev_orT, ev_notF, ev_andF, ev_orF, ev_ifF, ev_yes, ev_iter, ev_rng1, ev_rng2, ev_rngW, ev_noP, ev_sl, ev_part, ev_next, ev_noG, ev_seq, ev_drop, ev_ret, ev_retN, ev_if, ev_asg, ev_setA, ev_nilA, ev_consA, ev_seqT, ev_seqL, ev_setN, ev_ok, ev_ioV, ev_ioU, ev_ioW, ev_owV, ev_owU, ev_own, ev_put, ev_ixOwn, ev_lenOwn, ev_setIx, ev_okC, ev_wipe1, ev_wipe0, ev_rest1, ev_rest0, ev_call, ev_callN, ev_ofr, ev_ofn, ev_ofnN, ev_mut, ev_mdl, ev_mdi, ev_io, ev_addI, ev_subI, ev_negI, ev_cmpI, ev_eqI, ev_neI, ev_eqS, ev_neS, ev_intI, ev_intB, ev_absI, ev_lenL, ev_lenT, ev_ixL, ev_ixT, ev_at0, ev_at1, ev_at2, ev_i30, ev_i31, ev_i32, ev_pk1, ev_pk2, ev_pk3, ev_pk4, ev_pkw1, ev_pkw2, ev_pkv2, ev_isI, ev_isN, ev_isB, ev_inI, ev_inN, ev_inB, ev_listT, ev_listL, ev_tupT, ev_tupL, ev_fld, ev_insAt, ev_fldOwn, ev_fldG, ev_meth, ev_make, ev_callL, ev_noLI, ev_nilL, ev_nameL, ev_lendL, ev_conL, ev_augIx, ev_putAt, ev_iadd, ev_isub, ev_revT, ev_enum, ev_zip, ev_seqDL, ev_seqDT, ev_nilM, ev_vaM, ev_owM, ev_parM, ev_app, ev_par, ev_par3, ev_lam, ev_ra, ev_xfld, ev_isX, ev_isX_non, ev_hd_found, ev_hd_ret, ev_hd_expr, ev_hd_er, ev_outV, ev_outVn, ev_makeK, ev_band, ev_bxor, ev_bor, ev_aug, ev_trng1, ev_trng2, ev_revE, ev_idxF, ev_pop, R.bind_ok, R.out_ok, Option.bind_some, List.getElem?_cons_succ, List.getElem?_cons_zero, List.set_cons_succ, List.set_cons_zero, List.length_cons, List.length_nil, Nat.reduceAdd, Nat.reduceEqDiff, List.getD_cons_succ, List.getD_cons_zero, decide_true, decide_false, Bool.and_true, Bool.and_self, and_self, true_and, List.all_cons, List.all_nil, Bool.not_true, Bool.not_false, if_true, Bool.true_eq_false, Bool.false_eq_true, if_false, g2, i1, i2, hbb]
  refine EndR.seq (s1 := [.va (.fz (ns.map .int)), .ow (.l P4), x2, .va (.int f), .va (.lst (ms.map D.int)), .va (.lst S), .va (.int v), .un]) ?_ ?_
  · simp only [ev_name, ev_c, ev_op2, ev_op1, ev_toR1, ev_toRL1, ev_nil, ev_cons, ev_opn, ev_opnN, ev_tup, ev_lst, ev_lstN, ev_new, ev_tst, ev_notT, ev_andT, ev_orT, ev_notF, ev_andF, ev_orF, ev_ifF, ev_yes, ev_iter, ev_rng1, ev_rng2, ev_rngW, ev_noP, ev_sl, ev_part, ev_next, ev_noG, ev_seq, ev_drop, ev_ret, ev_retN, ev_if, ev_asg, ev_setA, ev_nilA, ev_consA, ev_seqT, ev_seqL, ev_setN, ev_ok, ev_ioV, ev_ioU, ev_ioW, ev_owV, ev_owU, ev_own, ev_put, ev_ixOwn, ev_lenOwn, ev_setIx, ev_okC, ev_wipe1, ev_wipe0, ev_rest1, ev_rest0, ev_call, ev_callN, ev_ofr, ev_ofn, ev_ofnN, ev_mut, ev_mdl, ev_mdi, ev_io, ev_addI, ev_subI, ev_negI, ev_cmpI, ev_eqI, ev_neI, ev_eqS, ev_neS, ev_intI, ev_intB, ev_absI, ev_lenL, ev_lenT, ev_ixL, ev_ixT, ev_at0, ev_at1, ev_at2, ev_i30, ev_i31, ev_i32, ev_pk1, ev_pk2, ev_pk3, ev_pk4, ev_pkw1, ev_pkw2, ev_pkv2, ev_isI, ev_isN, ev_isB, ev_inI, ev_inN, ev_inB, ev_listT, ev_listL, ev_tupT, ev_tupL, ev_fld, ev_insAt, ev_fldOwn, ev_fldG, ev_meth, ev_make, ev_callL, ev_noLI, ev_nilL, ev_nameL, ev_lendL, ev_conL, ev_augIx, ev_putAt, ev_iadd, ev_isub, ev_revT, ev_enum, ev_zip, ev_seqDL, ev_seqDT, ev_nilM, ev_vaM, ev_owM, ev_parM, ev_app, ev_par, ev_par3, ev_lam, ev_ra, ev_xfld, ev_isX, ev_isX_non, ev_hd_found, ev_hd_ret, ev_hd_expr, ev_hd_er, ev_outV, ev_outVn, ev_makeK, ev_band, ev_bxor, ev_bor, ev_aug, ev_trng1, ev_trng2, ev_revE, ev_idxF, ev_pop, R.bind_ok, R.out_ok, Option.bind_some, List.getElem?_cons_succ, List.getElem?_cons_zero, List.set_cons_succ, List.set_cons_zero, List.length_cons, List.length_nil, Nat.reduceAdd, Nat.reduceEqDiff, List.getD_cons_succ, List.getD_cons_zero, decide_true, decide_false, Bool.and_true, Bool.and_self, and_self, true_and, List.all_cons, List.all_nil, Bool.not_true, Bool.not_false, if_true, Bool.true_eq_false, Bool.false_eq_true, if_false, e3, hv]
  simp only [ev_name, ev_c, ev_op2, ev_op1, ev_toR1, ev_toRL1, ev_nil, ev_cons, ev_opn, ev_opnN, ev_tup, ev_lst, ev_lstN, ev_new, ev_tst, ev_notT, ev_andT, ev_orT, ev_notF, ev_andF, ev_orF, ev_ifF, ev_yes, ev_iter, ev_rng1, ev_rng2, ev_rngW, ev_noP, ev_sl, ev_part, ev_next, ev_noG, ev_seq, ev_drop, ev_ret, ev_retN, ev_if, ev_asg, ev_setA, ev_nilA, ev_consA, ev_seqT, ev_seqL, ev_setN, ev_ok, ev_ioV, ev_ioU, ev_ioW, ev_owV, ev_owU, ev_own, ev_put, ev_ixOwn, ev_lenOwn, ev_setIx, ev_okC, ev_wipe1, ev_wipe0, ev_rest1, ev_rest0, ev_call, ev_callN, ev_ofr, ev_ofn, ev_ofnN, ev_mut, ev_mdl, ev_mdi, ev_io, ev_addI, ev_subI, ev_negI, ev_cmpI, ev_eqI, ev_neI, ev_eqS, ev_neS, ev_intI, ev_intB, ev_absI, ev_lenL, ev_lenT, ev_ixL, ev_ixT, ev_at0, ev_at1, ev_at2, ev_i30, ev_i31, ev_i32, ev_pk1, ev_pk2, ev_pk3, ev_pk4, ev_pkw1, ev_pkw2, ev_pkv2, ev_isI, ev_isN, ev_isB, ev_inI, ev_inN, ev_inB, ev_listT, ev_listL, ev_tupT, ev_tupL, ev_fld, ev_insAt, ev_fldOwn, ev_fldG, ev_meth, ev_make, ev_callL, ev_noLI, ev_nilL, ev_nameL, ev_lendL, ev_conL, ev_augIx, ev_putAt, ev_iadd, ev_isub, ev_revT, ev_enum, ev_zip, ev_seqDL, ev_seqDT, ev_nilM, ev_vaM, ev_owM, ev_parM, ev_app, ev_par, ev_par3, ev_lam, ev_ra, ev_xfld, ev_isX, ev_isX_non, ev_hd_found, ev_hd_ret, ev_hd_expr, ev_hd_er, ev_outV, ev_outVn, ev_makeK, ev_band, ev_bxor, ev_bor, ev_aug, ev_trng1, ev_trng2, ev_revE, ev_idxF, ev_pop, R.bind_ok, R.out_ok, Option.bind_some, List.getElem?_cons_succ, List.getElem?_cons_zero, List.set_cons_succ, List.set_cons_zero, List.length_cons, List.length_nil, Nat.reduceAdd, Nat.reduceEqDiff, List.getD_cons_succ, List.getD_cons_zero, decide_true, decide_false, Bool.and_true, Bool.and_self, and_self, true_and, List.all_cons, List.all_nil, Bool.not_true, Bool.not_false, if_true, Bool.true_eq_false, Bool.false_eq_true, if_false, o0, o1, o30, k1, k2, s1, p30, hdd, hz, hz20, Nat.zero_le]
  exact ⟨_, rfl, rfl⟩
theorem law_end : ∀ (K : PySem.W.Frag) (H : Hp) (a : Addr) (ns : List Int), ns.length ≤ 63 → TbOk H → (Rd H a (.lst (ns.map V.int)) ∨ ∀ H, SqL K H a (ns.map V.int)) → spF K false 1 F_law [.ref a] H (fun v _ => v = .bl true) (fun _ _ _ => False) := fun K H a ns hl tk h => law_end_of law_true K H a ns hl tk h
end Fx

open PySem PySem.W PyProof.Rows
set_option maxRecDepth 100000 in
set_option maxHeartbeats 0 in
theorem PySem.Challenge.cw_saveagain_k33_whole_best_parameters_holds : PySem.Challenge.rw_saveagain_k33_whole_best_parameters.Holds := by
  w_on; o_law; k_head; (case hw => w_witness2)
  k_fill
  refine Fx.walkT (l := PySem.Challenge.rw_saveagain_k33_whole_best_parameters) (n := 63) (k := 9) (x := "script") (sp := fun T K => @Fx.spF T K false 1 Fx.F_law) rfl (by decide) rfl ⟨rfl, by decide, by decide⟩ (fun w h Y => PySem.W.km_in_of Y) ?F (fun T K H a ns hl t h => @Fx.law_end T K H a ns hl t h)
  case F =>
    intro w mg fa h KX G hmg
    refine' Fx.all_mk (l := PySem.Challenge.rw_saveagain_k33_whole_best_parameters) (qq := _) KX G hmg ?ib ?ic ?a0 ?l0 ?c0 ?k0 ?a1 ?l1 ?c1 ?k1 ?a2 ?l2 ?c2 ?k2 ?a3 ?l3 ?c3 ?k3 ?a4 ?l4 ?c4 ?k4 ?a5 ?l5 ?c5 ?k5 ?a6 ?l6 ?c6 ?k6 ?a7 ?l7 ?c7 ?k7 ?a8 ?l8 ?c8 ?k8 ?a9 ?l9 ?c9 ?k9 ?a10 ?l10 ?c10 ?k10 ?a11 ?l11 ?c11 ?k11 ?a12 ?l12 ?c12 ?k12 ?a13 ?l13 ?c13 ?k13 ?a14 ?l14 ?c14 ?k14 ?a15 ?l15 ?c15 ?k15 ?a16 ?l16 ?c16 ?k16 ?a17 ?l17 ?c17 ?k17 ?a18 ?l18 ?c18 ?k18 ?dl18 ?a19 ?l19 ?c19 ?k19 ?a20 ?l20 ?c20 ?k20 ?a21 ?l21 ?c21 ?k21 ?a22 ?l22 ?c22 ?k22 ?a23 ?l23 ?c23 ?k23 ?a24 ?l24 ?c24 ?k24 ?a25 ?l25 ?c25 ?k25 ?a26 ?l26 ?c26 ?k26 ?a27 ?l27 ?c27 ?k27 ?a28 ?l28 ?c28 ?k28 ?tl28 ?tp28 ?tn28 ?tb28 ?a29 ?l29 ?c29 ?k29 ?z0 ?z1 ?z2 ?z3 ?z4 ?z5 ?z6 ?z7 ?z8 ?z9 ?z10 ?z11 ?z12 ?v0 ?v1 ?xe_BadBits ?ek_BadBits ?et_BadBits ?xe_BadBlock ?ek_BadBlock ?et_BadBlock ?xe_BadCode ?ek_BadCode ?et_BadCode ?xe_BadNumber ?ek_BadNumber ?et_BadNumber ?xe_BadRow ?ek_BadRow ?et_BadRow ?xe_BadStream ?ek_BadStream ?et_BadStream ?xe_Misfit ?ek_Misfit ?et_Misfit ?xe_Nothing ?ek_Nothing ?et_Nothing ?xe_SaveError ?ek_SaveError ?et_SaveError ?xe_TooMany ?ek_TooMany ?et_TooMany ?ga_BadNumber ?gg_BadNumber ?bs_BadNumber ?hd_BadNumber ?ca_BadNumber ?mo_BadNumber ?cl_BadNumber ?ga_BadRow ?gg_BadRow ?bs_BadRow ?hd_BadRow ?ca_BadRow ?mo_BadRow ?cl_BadRow ?st0 ?zs0 ?tp0 ?lc_BadNumber ?rv_BadNumber ?sa_BadNumber ?kp_BadNumber ?in_BadNumber ?ti_BadNumber ?lk_BadNumber ?cc_BadNumber ?le_BadNumber ?ld_BadNumber ?hv_BadNumber ?hf_BadNumber ?mr_BadNumber ?al_BadNumber ?vv_BadNumber ?lc_BadRow ?rv_BadRow ?sa_BadRow ?kp_BadRow ?in_BadRow ?ti_BadRow ?lk_BadRow ?cc_BadRow ?le_BadRow ?ld_BadRow ?hv_BadRow ?hf_BadRow ?mr_BadRow ?al_BadRow ?vv_BadRow ?nf_BadNumber_part ?nf_BadRow_at ?kn_BadBits_BadNumber ?km_BadBits_BadNumber ?kn_BadBits_BadRow ?km_BadBits_BadRow ?kn_BadBlock_BadNumber ?km_BadBlock_BadNumber ?kn_BadBlock_BadRow ?km_BadBlock_BadRow ?kn_BadCode_BadNumber ?km_BadCode_BadNumber ?kn_BadCode_BadRow ?km_BadCode_BadRow ?kn_BadNumber_BadRow ?km_BadNumber_BadRow ?kn_BadRow_BadNumber ?km_BadRow_BadNumber ?kn_BadStream_BadNumber ?km_BadStream_BadNumber ?kn_BadStream_BadRow ?km_BadStream_BadRow ?kn_Misfit_BadNumber ?km_Misfit_BadNumber ?kn_Misfit_BadRow ?km_Misfit_BadRow ?kn_Nothing_BadNumber ?km_Nothing_BadNumber ?kn_Nothing_BadRow ?km_Nothing_BadRow ?kn_TooMany_BadNumber ?km_TooMany_BadNumber ?kn_TooMany_BadRow ?km_TooMany_BadRow ?bs_SaveError ?su_SaveError_BadNumber ?su_SaveError_BadRow ?pnd
    (case ib => k_is); (case ic => k_is); (case a0 => k_is); (case l0 => k_is); (case c0 => k_is); (case k0 => k_is); (case a1 => k_is); (case l1 => k_is); (case c1 => k_is); (case k1 => k_is); (case a2 => k_is); (case l2 => k_is)
    (case c2 => k_is); (case k2 => k_is); (case a3 => k_is); (case l3 => k_is); (case c3 => k_is); (case k3 => k_is); (case a4 => k_is); (case l4 => k_is); (case c4 => k_is); (case k4 => k_is); (case a5 => k_is); (case l5 => k_is)
    (case c5 => k_is); (case k5 => k_is); (case a6 => k_is); (case l6 => k_is); (case c6 => k_is); (case k6 => k_is); (case a7 => k_is); (case l7 => k_is); (case c7 => k_is); (case k7 => k_is); (case a8 => k_is); (case l8 => k_is)
    (case c8 => k_is); (case k8 => k_is); (case a9 => k_is); (case l9 => k_is); (case c9 => k_is); (case k9 => k_is); (case a10 => k_is); (case l10 => k_is); (case c10 => k_is); (case k10 => k_is); (case a11 => k_is); (case l11 => k_is)
    (case c11 => k_is); (case k11 => k_is); (case a12 => k_is); (case l12 => k_is); (case c12 => k_is); (case k12 => k_is); (case a13 => k_is); (case l13 => k_is); (case c13 => k_is); (case k13 => k_is); (case a14 => k_is); (case l14 => k_is)
    (case c14 => k_is); (case k14 => k_is); (case a15 => k_is); (case l15 => k_is); (case c15 => k_is); (case k15 => k_is); (case a16 => k_is); (case l16 => k_is); (case c16 => k_is); (case k16 => k_is); (case a17 => k_is); (case l17 => k_is)
    (case c17 => k_is); (case k17 => k_is); (case a18 => k_is); (case l18 => k_is); (case c18 => k_is); (case k18 => k_is); (case dl18 => k_is); (case a19 => k_is); (case l19 => k_is); (case c19 => k_is); (case k19 => k_is); (case a20 => k_is)
    (case l20 => k_is); (case c20 => k_is); (case k20 => k_is); (case a21 => k_is); (case l21 => k_is); (case c21 => k_is); (case k21 => k_is); (case a22 => k_is); (case l22 => k_is); (case c22 => k_is); (case k22 => k_is); (case a23 => k_is)
    (case l23 => k_is); (case c23 => k_is); (case k23 => k_is); (case a24 => k_is); (case l24 => k_is); (case c24 => k_is); (case k24 => k_is); (case a25 => k_is); (case l25 => k_is); (case c25 => k_is); (case k25 => k_is); (case a26 => k_is)
    (case l26 => k_is); (case c26 => k_is); (case k26 => k_is); (case a27 => k_is); (case l27 => k_is); (case c27 => k_is); (case k27 => k_is); (case a28 => k_is); (case l28 => k_is); (case c28 => k_is); (case k28 => k_is); (case tl28 => k_is)
    (case tp28 => first | rfl | decide +kernel | k_is); (case tn28 => first | rfl | decide +kernel | k_is); (case tb28 => first | rfl | decide +kernel | k_is); (case a29 => k_is); (case l29 => k_is); (case c29 => k_is); (case k29 => k_is); (case z0 => k_is); (case z1 => k_is); (case z2 => k_is); (case z3 => k_is); (case z4 => k_is)
    (case z5 => k_is); (case z6 => k_is); (case z7 => k_is); (case z8 => k_is); (case z9 => k_is); (case z10 => k_is); (case z11 => k_is); (case z12 => k_is); (case v0 => k_is); (case v1 => k_is); (case xe_BadBits => k_is); (case ek_BadBits => k_is)
    (case et_BadBits => k_is); (case xe_BadBlock => k_is); (case ek_BadBlock => k_is); (case et_BadBlock => k_is); (case xe_BadCode => k_is); (case ek_BadCode => k_is); (case et_BadCode => k_is); (case xe_BadNumber => k_is); (case ek_BadNumber => k_is); (case et_BadNumber => k_is); (case xe_BadRow => k_is); (case ek_BadRow => k_is)
    (case et_BadRow => k_is); (case xe_BadStream => k_is); (case ek_BadStream => k_is); (case et_BadStream => k_is); (case xe_Misfit => k_is); (case ek_Misfit => k_is); (case et_Misfit => k_is); (case xe_Nothing => k_is); (case ek_Nothing => k_is); (case et_Nothing => k_is); (case xe_SaveError => k_is); (case ek_SaveError => k_is)
    (case et_SaveError => k_is); (case xe_TooMany => k_is); (case ek_TooMany => k_is); (case et_TooMany => k_is); (case ga_BadNumber => k_is); (case gg_BadNumber => k_is); (case bs_BadNumber => k_is); (case hd_BadNumber => k_is); (case ca_BadNumber => k_is); (case mo_BadNumber => k_is); (case cl_BadNumber => k_is); (case ga_BadRow => k_is)
    (case gg_BadRow => k_is); (case bs_BadRow => k_is); (case hd_BadRow => k_is); (case ca_BadRow => k_is); (case mo_BadRow => k_is); (case cl_BadRow => k_is); (case st0 => k_is); (case zs0 => k_is); (case tp0 => first | rfl | decide +kernel | k_is); (case lc_BadNumber => k_is); (case rv_BadNumber => first | rfl | decide +kernel | k_is); (case sa_BadNumber => k_is)
    (case kp_BadNumber => k_is); (case in_BadNumber => k_is); (case ti_BadNumber => k_is); (case lk_BadNumber => k_is); (case cc_BadNumber => k_is); (case le_BadNumber => k_is); (case ld_BadNumber => k_is); (case hv_BadNumber => first | rfl | decide +kernel | k_is); (case hf_BadNumber => first | rfl | decide +kernel | k_is); (case mr_BadNumber => k_is); (case al_BadNumber => first | rfl | decide +kernel | k_is); (case vv_BadNumber => k_is)
    (case lc_BadRow => k_is); (case rv_BadRow => first | rfl | decide +kernel | k_is); (case sa_BadRow => k_is); (case kp_BadRow => k_is); (case in_BadRow => k_is); (case ti_BadRow => k_is); (case lk_BadRow => k_is); (case cc_BadRow => k_is); (case le_BadRow => k_is); (case ld_BadRow => k_is); (case hv_BadRow => first | rfl | decide +kernel | k_is); (case hf_BadRow => first | rfl | decide +kernel | k_is)
    (case mr_BadRow => k_is); (case al_BadRow => first | rfl | decide +kernel | k_is); (case vv_BadRow => k_is); (case nf_BadNumber_part => k_is); (case nf_BadRow_at => k_is); (case kn_BadBits_BadNumber => first | rfl | decide +kernel | k_is); (case km_BadBits_BadNumber => k_is); (case kn_BadBits_BadRow => first | rfl | decide +kernel | k_is); (case km_BadBits_BadRow => k_is); (case kn_BadBlock_BadNumber => first | rfl | decide +kernel | k_is); (case km_BadBlock_BadNumber => k_is); (case kn_BadBlock_BadRow => first | rfl | decide +kernel | k_is)
    (case km_BadBlock_BadRow => k_is); (case kn_BadCode_BadNumber => first | rfl | decide +kernel | k_is); (case km_BadCode_BadNumber => k_is); (case kn_BadCode_BadRow => first | rfl | decide +kernel | k_is); (case km_BadCode_BadRow => k_is); (case kn_BadNumber_BadRow => first | rfl | decide +kernel | k_is); (case km_BadNumber_BadRow => k_is); (case kn_BadRow_BadNumber => first | rfl | decide +kernel | k_is); (case km_BadRow_BadNumber => k_is); (case kn_BadStream_BadNumber => first | rfl | decide +kernel | k_is); (case km_BadStream_BadNumber => k_is); (case kn_BadStream_BadRow => first | rfl | decide +kernel | k_is)
    (case km_BadStream_BadRow => k_is); (case kn_Misfit_BadNumber => first | rfl | decide +kernel | k_is); (case km_Misfit_BadNumber => k_is); (case kn_Misfit_BadRow => first | rfl | decide +kernel | k_is); (case km_Misfit_BadRow => k_is); (case kn_Nothing_BadNumber => first | rfl | decide +kernel | k_is); (case km_Nothing_BadNumber => k_is); (case kn_Nothing_BadRow => first | rfl | decide +kernel | k_is); (case km_Nothing_BadRow => k_is); (case kn_TooMany_BadNumber => first | rfl | decide +kernel | k_is); (case km_TooMany_BadNumber => k_is); (case kn_TooMany_BadRow => first | rfl | decide +kernel | k_is)
    (case km_TooMany_BadRow => k_is); (case bs_SaveError => k_is); (case su_SaveError_BadNumber => k_is); (case su_SaveError_BadRow => k_is); (case pnd => first | rfl | decide +kernel | k_is)
