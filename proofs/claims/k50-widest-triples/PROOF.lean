import PyProof.Rows.All
import Wide.All
import OpenK.AllK
import Wide.FinOn
import HandS.ForMost
import HandS.Exc
import HandS.TryOnly
import HandS.WordsExc
import HandS.Lambda
import HandS.Wide
import HandS.TupAny
import HandS.TupLe
import HandS.Deep
import HandS.SortInts
import HandS.IsInst
import HandS.Zip
import KE.KSortedM
import KE.GoesMore
import HandS.NoneIn
import KE.GoesEnum
import HandS.RaiseMore
import HandS.Strs
import HandS.SetFor
import HandS.Style
import PyProof.CallFns
import HandS.Conv
import KE.KTupSum
import PySem.Challenge.RW_wheelsandends_k50_whole_widest_triples_a
set_option Elab.async false
set_option linter.all false
set_option maxRecDepth 100000
set_option maxHeartbeats 8000000
namespace DL
open PySem PySem.Spec PyProof.Rows L2

/-- what a value is, as data -/
inductive D where
  | non | bl (b : Bool) | int (i : Int) | str (x : Str)
  | tup (ds : List D) | lst (ds : List D)
  | obj (C : Addr) (ns : List Str) (ds : List D)
  | deal

/-- what surrounds: the written part, where the deal lies, the tables of code objects -/
structure Am where
  K : PySem.W.Frag
  ws : Option (Addr × Addr)
  T : List (Addr × Str)
def Am.dl (A : Am) (p : Addr) : Prop := ∃ w, A.ws = some w ∧ (p = w.1 ∨ p = w.2)
/-- the deal's state: its great cells, its blend -/
abbrev Wd := List Int × Int

mutual
def Rep (A : Am) (H : Hp) : D → V → Prop
  | .non, v => v = .non
  | .bl b, v => v = .bl b
  | .int i, v => v = .int i
  | .str x, v => v = .str x
  | .tup ds, v => ∃ a xs, v = .ref a ∧ H a = some (.tup xs) ∧ RepL A H ds xs
  | .lst ds, v => ∃ a xs, v = .ref a ∧ H a = some (.lst xs) ∧ RepL A H ds xs
  | .obj C ns ds, v => ∃ a dx fs, v = .ref a ∧ H a = some (.ins C dx fs) ∧ fs.map (·.1) = ns ∧ RepL A H ds (fs.map (·.2))
  | .deal, v => ∃ w, A.ws = some w ∧ v = .ref w.1
def RepL (A : Am) (H : Hp) : List D → List V → Prop
  | [], xs => xs = []
  | d :: ds, xs => ∃ x r, xs = x :: r ∧ Rep A H d x ∧ RepL A H ds r
end

mutual
theorem Rep.mono {A : Am} {H H' : Hp} (e : Same H H') : ∀ (d : D) (v : V), Rep A H d v → Rep A H' d v
  | .non, v, h => by unfold Rep at h ⊢; exact h
  | .bl b, v, h => by unfold Rep at h ⊢; exact h
  | .int i, v, h => by unfold Rep at h ⊢; exact h
  | .str x, v, h => by unfold Rep at h ⊢; exact h
  | .tup ds, v, h => by
    unfold Rep at h ⊢
    obtain ⟨a, xs, h1, h2, h3⟩ := h
    exact ⟨a, xs, h1, e _ _ h2, RepL.mono e ds xs h3⟩
  | .lst ds, v, h => by
    unfold Rep at h ⊢
    obtain ⟨a, xs, h1, h2, h3⟩ := h
    exact ⟨a, xs, h1, e _ _ h2, RepL.mono e ds xs h3⟩
  | .obj C ns ds, v, h => by
    unfold Rep at h ⊢
    obtain ⟨a, dx, fs, h1, h2, h3, h4⟩ := h
    exact ⟨a, dx, fs, h1, e _ _ h2, h3, RepL.mono e ds _ h4⟩
  | .deal, v, h => by unfold Rep at h ⊢; exact h
theorem RepL.mono {A : Am} {H H' : Hp} (e : Same H H') : ∀ (ds : List D) (xs : List V), RepL A H ds xs → RepL A H' ds xs
  | [], xs, h => by unfold RepL at h ⊢; exact h
  | d :: ds, xs, h => by
    unfold RepL at h ⊢
    obtain ⟨x, r, h1, h2, h3⟩ := h
    exact ⟨x, r, h1, Rep.mono e d x h2, RepL.mono e ds r h3⟩
end

section
variable {A : Am} {H : Hp} {v : V} {xs : List V} {ds : List D} {d : D}
theorem rep_non : Rep A H .non v ↔ v = .non := by unfold Rep; exact Iff.rfl
theorem rep_bl {b} : Rep A H (.bl b) v ↔ v = .bl b := by unfold Rep; exact Iff.rfl
theorem rep_int {i} : Rep A H (.int i) v ↔ v = .int i := by unfold Rep; exact Iff.rfl
theorem rep_str {x} : Rep A H (.str x) v ↔ v = .str x := by unfold Rep; exact Iff.rfl
theorem rep_tup : Rep A H (.tup ds) v ↔ ∃ a xs, v = .ref a ∧ H a = some (.tup xs) ∧ RepL A H ds xs := by
  conv => lhs; unfold Rep
theorem rep_lst : Rep A H (.lst ds) v ↔ ∃ a xs, v = .ref a ∧ H a = some (.lst xs) ∧ RepL A H ds xs := by
  conv => lhs; unfold Rep
theorem repL_nil : RepL A H [] xs ↔ xs = [] := by unfold RepL; exact Iff.rfl
theorem repL_cons : RepL A H (d :: ds) xs ↔ ∃ x r, xs = x :: r ∧ Rep A H d x ∧ RepL A H ds r := by
  conv => lhs; unfold RepL
theorem RepL.cons {x : V} (h : Rep A H d x) (t : RepL A H ds xs) : RepL A H (d :: ds) (x :: xs) := repL_cons.mpr ⟨x, xs, rfl, h, t⟩
theorem RepL.nil : RepL A H [] [] := repL_nil.mpr rfl
theorem RepL.len : ∀ {ds : List D} {xs : List V}, RepL A H ds xs → ds.length = xs.length
  | [], xs, h => by rw [repL_nil.mp h]; rfl
  | d :: ds, xs, h => by
    obtain ⟨x, r, rfl, _, t⟩ := repL_cons.mp h
    rw [List.length_cons, List.length_cons, RepL.len t]
theorem RepL.get : ∀ {ds : List D} {xs : List V} {i : Nat} {d : D}, RepL A H ds xs → ds[i]? = some d → ∃ x, xs[i]? = some x ∧ Rep A H d x
  | [], xs, i, d, h, e => by simp at e
  | d0 :: ds, xs, 0, d, h, e => by
    obtain ⟨x, r, rfl, hx, _⟩ := repL_cons.mp h
    simp at e
    subst e
    exact ⟨x, rfl, hx⟩
  | d0 :: ds, xs, i + 1, d, h, e => by
    obtain ⟨x, r, rfl, _, t⟩ := repL_cons.mp h
    obtain ⟨y, h1, h2⟩ := RepL.get (i := i) (d := d) t (by simpa using e)
    exact ⟨y, by simpa using h1, h2⟩
theorem RepL.get' : ∀ {ds : List D} {xs : List V} {i : Nat} {x : V}, RepL A H ds xs → xs[i]? = some x → ∃ d, ds[i]? = some d ∧ Rep A H d x := by
  intro ds xs i x h e
  have hl := h.len
  have hi : i < xs.length := (List.getElem?_eq_some_iff.mp e).1
  have hd : ds[i]? = some (ds[i]'(by omega)) := List.getElem?_eq_getElem (by omega)
  obtain ⟨y, h1, h2⟩ := h.get hd
  rw [e] at h1
  cases h1
  exact ⟨_, hd, h2⟩
theorem RepL.append : ∀ {ds es : List D} {xs ys : List V}, RepL A H ds xs → RepL A H es ys → RepL A H (ds ++ es) (xs ++ ys)
  | [], es, xs, ys, h, k => by rw [repL_nil.mp h]; exact k
  | d :: ds, es, xs, ys, h, k => by
    obtain ⟨x, r, rfl, hx, t⟩ := repL_cons.mp h
    exact RepL.cons hx (RepL.append t k)
theorem RepL.take : ∀ {ds : List D} {xs : List V} (n : Nat), RepL A H ds xs → RepL A H (ds.take n) (xs.take n)
  | ds, xs, 0, h => by simp [RepL.nil]
  | [], xs, n + 1, h => by rw [repL_nil.mp h]; exact RepL.nil
  | d :: ds, xs, n + 1, h => by
    obtain ⟨x, r, rfl, hx, t⟩ := repL_cons.mp h
    exact RepL.cons hx (RepL.take n t)
theorem RepL.drop : ∀ {ds : List D} {xs : List V} (n : Nat), RepL A H ds xs → RepL A H (ds.drop n) (xs.drop n)
  | ds, xs, 0, h => h
  | [], xs, n + 1, h => by rw [repL_nil.mp h]; exact RepL.nil
  | d :: ds, xs, n + 1, h => by
    obtain ⟨x, r, rfl, hx, t⟩ := repL_cons.mp h
    exact RepL.drop n t
theorem RepL.set : ∀ {ds : List D} {xs : List V} {d : D} {x : V} (n : Nat), RepL A H ds xs → Rep A H d x → RepL A H (ds.set n d) (xs.set n x)
  | [], xs, d, x, n, h, k => by rw [repL_nil.mp h]; exact RepL.nil
  | d0 :: ds, xs, d, x, 0, h, k => by
    obtain ⟨y, r, rfl, hy, t⟩ := repL_cons.mp h
    exact RepL.cons k t
  | d0 :: ds, xs, d, x, n + 1, h, k => by
    obtain ⟨y, r, rfl, hy, t⟩ := repL_cons.mp h
    exact RepL.cons hy (RepL.set n t k)
theorem RepL.reverse : ∀ {ds : List D} {xs : List V}, RepL A H ds xs → RepL A H ds.reverse xs.reverse
  | [], xs, h => by rw [repL_nil.mp h]; exact RepL.nil
  | d :: ds, xs, h => by
    obtain ⟨x, r, rfl, hx, t⟩ := repL_cons.mp h
    rw [List.reverse_cons, List.reverse_cons]
    exact (RepL.reverse t).append (RepL.cons hx RepL.nil)
theorem RepL.ints : ∀ {ns : List Int} {xs : List V}, RepL A H (ns.map D.int) xs → xs = ns.map V.int
  | [], xs, h => repL_nil.mp h
  | n :: ns, xs, h => by
    obtain ⟨x, r, rfl, hx, t⟩ := repL_cons.mp (show RepL A H (D.int n :: ns.map D.int) xs from h)
    rw [rep_int.mp hx, RepL.ints t]
    rfl
theorem RepL.of_ints : ∀ (ns : List Int), RepL A H (ns.map D.int) (ns.map V.int)
  | [] => RepL.nil
  | n :: ns => RepL.cons (rep_int.mpr rfl) (RepL.of_ints ns)
end

/-! ### the state -/
/-- the frame's slots as data: nothing known | shared data | a list of the frame's own -/
structure Cfg where
  r : List (Option (Bool × D))
  W : Wd
def Cfg.put (c : Cfg) (i : Nat) (o : Option (Bool × D)) : Cfg := { c with r := c.r.set i o }
def WOk (A : Am) (Hb H : Hp) (W : Wd) : Prop := ∀ w, A.ws = some w → H w.1 = some (.lst [.ref w.2, .int W.2]) ∧ H w.2 = some (.lst (W.1.map V.int)) ∧ Hb w.1 = none ∧ Hb w.2 = none ∧ w.1 ≠ w.2
structure HR (A : Am) (Hb H : Hp) (W : Wd) : Prop where
  same : Same Hb H
  notb : ∀ p ps, Hb p ≠ some (.tbl ps)
  w : WOk A Hb H W
  tabs : LamX.Tabs A.T H
structure Kept (A : Am) (H H' : Hp) : Prop where
  it : ∀ p o, H p = some o → ∃ o', H' p = some o'
  eq : ∀ p o, H p = some o → ¬ A.dl p → (∀ ps, o ≠ .tbl ps) → H' p = some o
theorem Kept.refl {A : Am} (H : Hp) : Kept A H H := ⟨fun p o h => ⟨o, h⟩, fun p o h _ _ => h⟩
theorem Kept.trans {A : Am} {H H1 H2 : Hp} (a : Kept A H H1) (b : Kept A H1 H2) : Kept A H H2 :=
  ⟨fun p o h => by obtain ⟨o1, h1⟩ := a.it p o h; exact b.it p o1 h1, fun p o h n t => b.eq p o (a.eq p o h n t) n t⟩
theorem Kept.of {A : Am} {H H' : Hp} (e : Same H H') : Kept A H H' := ⟨fun p o h => ⟨o, e p o h⟩, fun p o h _ _ => e p o h⟩
theorem HR.nodl {A : Am} {Hb H : Hp} {W : Wd} (h : HR A Hb H W) {p : Addr} {o : HO} (e : Hb p = some o) : ¬ A.dl p := by
  rintro ⟨w, hw, rfl | rfl⟩
  · rw [(h.w w hw).2.2.1] at e; cases e
  · rw [(h.w w hw).2.2.2.1] at e; cases e
theorem HR.sameK {A : Am} {Hb H H' : Hp} {W : Wd} (h : HR A Hb H W) (k : Kept A H H') : Same Hb H' := fun p o e =>
  k.eq p o (h.same p o e) (h.nodl e) fun ps z => h.notb p ps (by rw [e, z])
/-- what stands new or fresh is not the deal's -/
theorem HR.fresh {A : Am} {Hb H : Hp} {W : Wd} (h : HR A Hb H W) {p : Addr} (e : H p = none) : ¬ A.dl p := by
  rintro ⟨w, hw, rfl | rfl⟩
  · rw [(h.w w hw).1] at e; cases e
  · rw [(h.w w hw).2.1] at e; cases e
theorem HR.freshB {A : Am} {Hb H : Hp} {W : Wd} (h : HR A Hb H W) {p : Addr} (e : H p = none) : Hb p = none := by
  cases q : Hb p with
  | none => rfl
  | some o => rw [h.same p o q] at e; cases e
/-- an object of the frame's own -/
def ObjD (A : Am) (Hb : Hp) : D → HO → Prop
  | .lst ds, o => ∃ xs, o = .lst xs ∧ RepL A Hb ds xs
  | _, _ => False
theorem ObjD.mono {A : Am} {Hb Hb' : Hp} {d : D} {o : HO} (e : Same Hb Hb') (h : ObjD A Hb d o) : ObjD A Hb' d o := by
  cases d with
  | lst ds =>
    obtain ⟨xs, h1, h2⟩ := h
    exact ⟨xs, h1, RepL.mono e _ _ h2⟩
  | non => exact h
  | bl b => exact h
  | int i => exact h
  | str x => exact h
  | tup ds => exact h
  | obj C ns ds => exact h
  | deal => exact h
theorem ObjD.notb {A : Am} {Hb : Hp} {d : D} {o : HO} (h : ObjD A Hb d o) : ∀ ps, o ≠ .tbl ps := by
  intro ps z
  cases d with
  | lst ds =>
    obtain ⟨xs, h1, h2⟩ := h
    rw [h1] at z
    cases z
  | non => exact h
  | bl b => exact h
  | int i => exact h
  | str x => exact h
  | tup ds => exact h
  | obj C ns ds => exact h
  | deal => exact h
/-- frozen where it stands -/
theorem ObjD.rep {A : Am} {Hb : Hp} {d : D} {o : HO} {a : Addr} (h : ObjD A Hb d o) (n : Hb a = none) : Rep A (upd Hb a o) d (.ref a) := by
  have e : Same Hb (upd Hb a o) := fun p u q => by rw [upd_ne (ne_of_none q n)]; exact q
  cases d with
  | lst ds =>
    obtain ⟨xs, h1, h2⟩ := h
    subst h1
    exact rep_lst.mpr ⟨a, xs, rfl, upd_same, RepL.mono e _ _ h2⟩
  | non => exact h.elim
  | bl b => exact h.elim
  | int i => exact h.elim
  | str x => exact h.elim
  | tup ds => exact h.elim
  | obj C ns ds => exact h.elim
  | deal => exact h.elim
/-- at the def's entry: what is known for good, all that is tracked -/
structure Bs where
  b0 : Hp
  h0 : Hp
  pr : Addr → Prop
/-- what holds from the entry on -/
structure Fin (A : Am) (B : Bs) (Hb H : Hp) (W : Wd) : Prop where
  hr : HR A Hb H W
  b0 : Same B.b0 Hb
  kp : Kept A B.h0 H
  nb : ∀ p o, B.b0 p = none → B.h0 p = some o → Hb p = none
structure Sr (A : Am) (B : Bs) (Hb H : Hp) (σ : List (Option V)) (c : Cfg) : Prop where
  fin : Fin A B Hb H c.W
  len : c.r.length = σ.length
  sh : ∀ (i : Nat) (d : D), c.r[i]? = some (some (false, d)) → ∃ v : V, σ[i]? = some (some v) ∧ Rep A Hb d v
  ow : ∀ (i : Nat) (d : D), c.r[i]? = some (some (true, d)) → ∃ (a : Addr) (o : HO), σ[i]? = some (some (V.ref a)) ∧ H a = some o ∧ ObjD A Hb d o ∧ Hb a = none ∧ ¬ A.dl a ∧ B.h0 a = none
  sep : ∀ (i j : Nat) (di dj : D) (a : Addr), c.r[i]? = some (some (true, di)) → c.r[j]? = some (some (true, dj)) → σ[i]? = some (some (V.ref a)) → σ[j]? = some (some (V.ref a)) → i = j
  pr : ∀ p, B.pr p → (∃ o, H p = some o) ∧ Hb p = none ∧ ∀ (i : Nat) (d : D), c.r[i]? = some (some (true, d)) → σ[i]? ≠ some (some (V.ref p))
/-- from one heap to the next, within an expression -/
structure Stp (A : Am) (Hb H Hb' H' : Hp) : Prop where
  b : Same Hb Hb'
  k : Kept A H H'
theorem Stp.refl {A : Am} {Hb H : Hp} : Stp A Hb H Hb H := ⟨Same.refl _, Kept.refl _⟩
theorem Stp.trans {A : Am} {Hb H Hb1 H1 Hb2 H2 : Hp} (a : Stp A Hb H Hb1 H1) (b : Stp A Hb1 H1 Hb2 H2) : Stp A Hb H Hb2 H2 := ⟨a.b.trans b.b, a.k.trans b.k⟩

/-! ### kinds of results -/
inductive Kd where
  | st | fr | bo
def RepO (A : Am) (Hb H : Hp) (d : D) (v : V) : Prop := Rep A Hb d v ∨ ∃ a o, v = .ref a ∧ H a = some o ∧ ObjD A Hb d o ∧ ¬ A.dl a
def FrO (A : Am) (B : Bs) (Hb H : Hp) (d : D) (v : V) (a : Addr) : Prop := ∃ o, v = .ref a ∧ H a = some o ∧ ObjD A Hb d o ∧ Hb a = none ∧ ¬ A.dl a ∧ B.h0 a = none ∧ ¬ B.pr a
def RepK (A : Am) (B : Bs) (Hb H : Hp) (σ : List (Option V)) (c : Cfg) : Kd → D → V → Prop
  | .st, d, v => Rep A Hb d v
  | .fr, d, v => ∃ a, FrO A B Hb H d v a ∧ ∀ (i : Nat) (d' : D), c.r[i]? = some (some (true, d')) → σ[i]? ≠ some (some (V.ref a))
  | .bo, d, v => RepO A Hb H d v
section
variable {A : Am} {B : Bs} {Hb H Hb' H' : Hp} {σ : List (Option V)} {c : Cfg} {k : Kd} {d : D} {v : V}
theorem RepO.mono (s : Stp A Hb H Hb' H') (h : RepO A Hb H d v) : RepO A Hb' H' d v := by
  rcases h with h | ⟨a, o, h1, h2, h3, h4⟩
  · exact .inl (Rep.mono s.b _ _ h)
  · exact .inr ⟨a, o, h1, s.k.eq a o h2 h4 h3.notb, h3.mono s.b, h4⟩
theorem RepK.o (h : RepK A B Hb H σ c k d v) : RepO A Hb H d v := by
  cases k with
  | st => exact .inl h
  | fr =>
    obtain ⟨a, ⟨o, h1, h2, h3, h4, h5, h6, _⟩, h7⟩ := h
    exact .inr ⟨a, o, h1, h2, h3, h5⟩
  | bo => exact h
theorem same_upd {H : Hp} {p : Addr} {o : HO} (h : H p = none) : Same H (upd H p o) := fun b x e => by
  rw [upd_ne (ne_of_none e h)]
  exact e
/-- a new object comes into the heap -/
theorem Fin.new {W : Wd} {p : Addr} {o : HO} (f : Fin A B Hb H W) (hp : H p = none) : Fin A B Hb (upd H p o) W := by
  have e : Same H (upd H p o) := same_upd hp
  refine ⟨⟨f.hr.same.trans e, f.hr.notb, fun w hw => ?_, f.hr.tabs.ext e⟩, f.b0, f.kp.trans (.of e), f.nb⟩
  obtain ⟨h1, h2, h3, h4, h5⟩ := f.hr.w w hw
  exact ⟨e _ _ h1, e _ _ h2, h3, h4, h5⟩
theorem Fin.h0n {W : Wd} {p : Addr} (f : Fin A B Hb H W) (hp : H p = none) : B.h0 p = none := by
  cases q : B.h0 p with
  | none => rfl
  | some o => obtain ⟨o', e⟩ := f.kp.it p o q; rw [e] at hp; cases hp
/-- an object that is not known for good becomes so -/
theorem Fin.frz {W : Wd} {a : Addr} {o : HO} (f : Fin A B Hb H W) (ha : H a = some o) (hb : Hb a = none) (hn : ¬ A.dl a) (h0 : B.h0 a = none) (ht : ∀ ps, o ≠ .tbl ps) : Fin A B (upd Hb a o) H W := by
  have e : Same Hb (upd Hb a o) := same_upd hb
  refine ⟨⟨fun p u q => ?_, fun p ps q => ?_, fun w hw => ?_, f.hr.tabs⟩, f.b0.trans e, f.kp, fun p u q1 q2 => ?_⟩
  · by_cases hp : p = a
    · subst hp; rw [upd_same] at q; cases q; exact ha
    · rw [upd_ne hp] at q; exact f.hr.same p u q
  · by_cases hp : p = a
    · subst hp; rw [upd_same] at q; cases q; exact ht ps rfl
    · rw [upd_ne hp] at q; exact f.hr.notb p ps q
  · obtain ⟨h1, h2, h3, h4, h5⟩ := f.hr.w w hw
    have n1 : w.1 ≠ a := fun z => hn ⟨w, hw, .inl z.symm⟩
    have n2 : w.2 ≠ a := fun z => hn ⟨w, hw, .inr z.symm⟩
    exact ⟨h1, h2, by rw [upd_ne n1]; exact h3, by rw [upd_ne n2]; exact h4, h5⟩
  · have hp : p ≠ a := fun z => by rw [z, h0] at q2; cases q2
    rw [upd_ne hp]
    exact f.nb p u q1 q2
theorem Sr.new {p : Addr} {o : HO} (s : Sr A B Hb H σ c) (hp : H p = none) : Sr A B Hb (upd H p o) σ c :=
  ⟨s.fin.new hp, s.len, s.sh, fun i d h => by
    obtain ⟨a, u, h1, h2, h3, h4, h5, h6⟩ := s.ow i d h
    exact ⟨a, u, h1, same_upd hp a u h2, h3, h4, h5, h6⟩, s.sep, fun q h => by
    obtain ⟨⟨u, h1⟩, h2, h3⟩ := s.pr q h
    exact ⟨⟨u, same_upd hp q u h1⟩, h2, h3⟩⟩
/-- a list that nobody holds becomes known for good -/
theorem Sr.frz {a : Addr} {o : HO} (s : Sr A B Hb H σ c) (ha : H a = some o) (hb : Hb a = none) (hn : ¬ A.dl a) (h0 : B.h0 a = none) (np : ¬ B.pr a) (ht : ∀ ps, o ≠ .tbl ps)
    (no : ∀ (i : Nat) (d' : D), c.r[i]? = some (some (true, d')) → σ[i]? ≠ some (some (V.ref a))) : Sr A B (upd Hb a o) H σ c := by
  have e : Same Hb (upd Hb a o) := same_upd hb
  refine ⟨s.fin.frz ha hb hn h0 ht, s.len, fun i d h => ?_, fun i d h => ?_, s.sep, fun q h => ?_⟩
  · obtain ⟨v, h1, h2⟩ := s.sh i d h
    exact ⟨v, h1, Rep.mono e _ _ h2⟩
  · obtain ⟨b, u, h1, h2, h3, h4, h5, h6⟩ := s.ow i d h
    have hba : b ≠ a := fun z => no i d h (by rw [h1, z])
    exact ⟨b, u, h1, h2, h3.mono e, by rw [upd_ne hba]; exact h4, h5, h6⟩
  · obtain ⟨h1, h2, h3⟩ := s.pr q h
    have hq : q ≠ a := fun z => np (by rw [← z]; exact h)
    exact ⟨h1, by rw [upd_ne hq]; exact h2, h3⟩
/-- a result of any kind but a borrowed one can be kept for good -/
theorem RepK.keep (s : Sr A B Hb H σ c) (h : RepK A B Hb H σ c k d v) (hk : k ≠ .bo) : ∃ Hb', Sr A B Hb' H σ c ∧ Same Hb Hb' ∧ Rep A Hb' d v := by
  cases k with
  | st => exact ⟨Hb, s, Same.refl _, h⟩
  | fr =>
    obtain ⟨a, ⟨o, h1, h2, h3, h4, h5, h6, h8⟩, h7⟩ := h
    subst h1
    exact ⟨upd Hb a o, s.frz h2 h4 h5 h6 h8 h3.notb h7, same_upd h4, h3.rep h4⟩
  | bo => exact absurd rfl hk
theorem put_get {c : Cfg} {i j : Nat} {o : Option (Bool × D)} {u : Bool × D} (h : (c.put i o).r[j]? = some (some u)) : (j = i ∧ o = some u) ∨ (j ≠ i ∧ c.r[j]? = some (some u)) := by
  unfold Cfg.put at h
  by_cases hj : j = i
  · subst hj
    have hl : j < c.r.length := by
      cases Nat.lt_or_ge j c.r.length with
      | inl q => exact q
      | inr q =>
        rw [List.getElem?_eq_none (by simpa using q)] at h
        cases h
    rw [List.getElem?_set_self (by simpa using hl)] at h
    exact .inl ⟨rfl, Option.some.inj h⟩
  · rw [List.getElem?_set_ne (fun z => hj z.symm)] at h
    exact .inr ⟨hj, h⟩
/-- a slot takes shared data -/
theorem Sr.setS {i : Nat} (s : Sr A B Hb H σ c) (hi : i < c.r.length) (h : Rep A Hb d v) : Sr A B Hb H (σ.set i (some v)) (c.put i (some (false, d))) := by
  have ls : i < σ.length := by rw [← s.len]; exact hi
  refine ⟨s.fin, by simp [Cfg.put, s.len], fun j e hj => ?_, fun j e hj => ?_, fun j l dj dl a hj hl e1 e2 => ?_, fun p hp => ?_⟩
  rotate_right
  · obtain ⟨h1, h2, h3⟩ := s.pr p hp
    refine ⟨h1, h2, fun j d hj z => ?_⟩
    rcases put_get hj with ⟨rfl, q⟩ | ⟨n, q⟩
    · cases q
    · rw [List.getElem?_set_ne (fun z => n z.symm)] at z
      exact h3 j d q z
  · rcases put_get hj with ⟨rfl, q⟩ | ⟨n, q⟩
    · cases q
      exact ⟨v, List.getElem?_set_self ls, h⟩
    · obtain ⟨w, h1, h2⟩ := s.sh j e q
      exact ⟨w, by rw [List.getElem?_set_ne (fun z => n z.symm)]; exact h1, h2⟩
  · rcases put_get hj with ⟨rfl, q⟩ | ⟨n, q⟩
    · cases q
    · obtain ⟨a, o, h1, h2⟩ := s.ow j e q
      exact ⟨a, o, by rw [List.getElem?_set_ne (fun z => n z.symm)]; exact h1, h2⟩
  · rcases put_get hj with ⟨rfl, q⟩ | ⟨n1, q1⟩
    · cases q
    · rcases put_get hl with ⟨rfl, q⟩ | ⟨n2, q2⟩
      · cases q
      · rw [List.getElem?_set_ne (fun z => n1 z.symm)] at e1
        rw [List.getElem?_set_ne (fun z => n2 z.symm)] at e2
        exact s.sep j l dj dl a q1 q2 e1 e2
/-- a slot takes a list of its own -/
theorem Sr.setO {i : Nat} {a : Addr} (s : Sr A B Hb H σ c) (hi : i < c.r.length) (h : FrO A B Hb H d v a) (no : ∀ (i : Nat) (d' : D), c.r[i]? = some (some (true, d')) → σ[i]? ≠ some (some (V.ref a))) :
    Sr A B Hb H (σ.set i (some v)) (c.put i (some (true, d))) := by
  have ls : i < σ.length := by rw [← s.len]; exact hi
  obtain ⟨o, h1, h2, h3, h4, h5, h6, h8⟩ := h
  subst h1
  refine ⟨s.fin, by simp [Cfg.put, s.len], fun j e hj => ?_, fun j e hj => ?_, fun j l dj dl b hj hl e1 e2 => ?_, fun p hp => ?_⟩
  rotate_right
  · obtain ⟨g1, g2, g3⟩ := s.pr p hp
    refine ⟨g1, g2, fun j d hj z => ?_⟩
    rcases put_get hj with ⟨rfl, q⟩ | ⟨n, q⟩
    · rw [List.getElem?_set_self ls] at z
      cases z
      exact h8 hp
    · rw [List.getElem?_set_ne (fun z => n z.symm)] at z
      exact g3 j d q z
  · rcases put_get hj with ⟨rfl, q⟩ | ⟨n, q⟩
    · cases q
    · obtain ⟨w, g1, g2⟩ := s.sh j e q
      exact ⟨w, by rw [List.getElem?_set_ne (fun z => n z.symm)]; exact g1, g2⟩
  · rcases put_get hj with ⟨rfl, q⟩ | ⟨n, q⟩
    · cases q
      exact ⟨a, o, List.getElem?_set_self ls, h2, h3, h4, h5, h6⟩
    · obtain ⟨b, u, g1, g2⟩ := s.ow j e q
      exact ⟨b, u, by rw [List.getElem?_set_ne (fun z => n z.symm)]; exact g1, g2⟩
  · rcases put_get hj with ⟨rfl, q⟩ | ⟨n1, q1⟩
    · rw [List.getElem?_set_self ls] at e1
      cases e1
      rcases put_get hl with ⟨rfl, q⟩ | ⟨n2, q2⟩
      · rfl
      · rw [List.getElem?_set_ne (fun z => n2 z.symm)] at e2
        exact absurd e2 (no l _ q2)
    · rw [List.getElem?_set_ne (fun z => n1 z.symm)] at e1
      rcases put_get hl with ⟨rfl, q⟩ | ⟨n2, q2⟩
      · rw [List.getElem?_set_self ls] at e2
        cases e2
        exact absurd e1 (no j _ q1)
      · rw [List.getElem?_set_ne (fun z => n2 z.symm)] at e2
        exact s.sep j l dj dl b q1 q2 e1 e2
/-- a slot is forgotten; the frame's slot itself stays -/
theorem Sr.drop (i : Nat) (s : Sr A B Hb H σ c) : Sr A B Hb H σ (c.put i none) := by
  refine ⟨s.fin, by simp [Cfg.put, s.len], fun j e hj => ?_, fun j e hj => ?_, fun j l dj dl a hj hl e1 e2 => ?_, fun p hp => ?_⟩
  rotate_right
  · obtain ⟨g1, g2, g3⟩ := s.pr p hp
    refine ⟨g1, g2, fun j d hj z => ?_⟩
    rcases put_get hj with ⟨rfl, q⟩ | ⟨n, q⟩
    · cases q
    · exact g3 j d q z
  · rcases put_get hj with ⟨rfl, q⟩ | ⟨n, q⟩
    · cases q
    · exact s.sh j e q
  · rcases put_get hj with ⟨rfl, q⟩ | ⟨n, q⟩
    · cases q
    · exact s.ow j e q
  · rcases put_get hj with ⟨rfl, q⟩ | ⟨n1, q1⟩
    · cases q
    · rcases put_get hl with ⟨rfl, q⟩ | ⟨n2, q2⟩
      · cases q
      · exact s.sep j l dj dl a q1 q2 e1 e2
/-- a list of a slot's own becomes shared -/
theorem Sr.share {i : Nat} (s : Sr A B Hb H σ c) (h : c.r[i]? = some (some (true, d))) : ∃ (a : Addr) (Hb' : Hp), σ[i]? = some (some (V.ref a)) ∧ Sr A B Hb' H σ (c.put i (some (false, d))) ∧ Same Hb Hb' ∧ Rep A Hb' d (V.ref a) := by
  obtain ⟨a, o, h1, h2, h3, h4, h5, h6⟩ := s.ow i d h
  have hi : i < c.r.length := (List.getElem?_eq_some_iff.mp h).1
  have s1 := s.drop i
  have s2 := s1.frz h2 h4 h5 h6 (fun z => (s.pr a z).2.2 i d h h1) h3.notb fun j e hj => by
    rcases put_get hj with ⟨rfl, q⟩ | ⟨n, q⟩
    · cases q
    · exact fun z => n (s.sep j i e d a q h z h1)
  have s3 := s2.setS (i := i) (by simpa [Cfg.put] using hi) (h3.rep h4)
  have es : σ.set i (some (.ref a)) = σ := by
    apply List.ext_getElem?
    intro j
    by_cases hj : j = i
    · subst hj
      rw [List.getElem?_set_self (by rw [← s.len]; exact hi), h1]
    · rw [List.getElem?_set_ne (fun z => hj z.symm)]
  have ec : (c.put i none).put i (some (false, d)) = c.put i (some (false, d)) := by simp [Cfg.put]
  rw [es, ec] at s3
  exact ⟨a, upd Hb a o, h1, s3, same_upd h4, h3.rep h4⟩
end
end DL
namespace DL
open PySem PySem.Spec PyProof.Rows L2

/-! ### what an expression comes to -/
/-- an error: its class, what it keeps -/
abbrev XD := Addr × Option D
inductive ER where
  | ok (k : Kd) (d : D) (c : Cfg) | exc (x : XD) (W : Wd) | bad
abbrev EF := Cfg → ER
def ER.bind (r : ER) (f : Kd → D → Cfg → ER) : ER := match r with
  | .ok k d c => f k d c
  | .exc x W => .exc x W
  | .bad => .bad
@[simp] theorem bind_ok {k d c} {f : Kd → D → Cfg → ER} : (ER.ok k d c).bind f = f k d c := rfl
@[simp] theorem bind_exc {x W} {f : Kd → D → Cfg → ER} : (ER.exc x W).bind f = .exc x W := rfl
@[simp] theorem bind_bad {f : Kd → D → Cfg → ER} : ER.bad.bind f = .bad := rfl
def ExcAt (A : Am) (Hb H : Hp) (x : XD) (cls : Value) (dd : Option Addr) : Prop := cls = .ref x.1 ∧ match x.2 with
  | none => dd = none
  | some d => ∃ (a : Addr) (v : V), dd = some a ∧ H a = some (.xd [("at", v)]) ∧ Rep A Hb d v
def ExcW (A : Am) (B : Bs) (E : XK) (x : XD) (W : Wd) : Prop := ∀ (cls : Value) (dd : Option Addr) (Hb' H' : Hp), Fin A B Hb' H' W → ExcAt A Hb' H' x cls dd → E cls dd H'
def EPost (A : Am) (B : Bs) (E : XK) (Hb H : Hp) (σ : L2.St) (Q : VK) : ER → Prop
  | .ok k d c' => ∀ (v : V) (Hb' H' : Hp), Sr A B Hb' H' σ c' → Stp A Hb H Hb' H' → RepK A B Hb' H' σ c' k d v → Q v H'
  | .exc x W' => ExcW A B E x W'
  | .bad => False
def rdE (A : Am) (B : Bs) (E : XK) (f : EF) : TE := fun σ H Q => ∃ (Hb : Hp) (c : Cfg), Sr A B Hb H σ c ∧ EPost A B E Hb H σ Q (f c)
def TPost (A : Am) (B : Bs) (E : XK) (Hb H : Hp) (σ : L2.St) (Q : Bool → Hp → Prop) : ER → Prop
  | .ok _ d c' => ∃ b, d = .bl b ∧ ∀ (Hb' H' : Hp), Sr A B Hb' H' σ c' → Stp A Hb H Hb' H' → Q b H'
  | .exc x W' => ExcW A B E x W'
  | .bad => False
def rdT (A : Am) (B : Bs) (E : XK) (f : EF) : TT := fun σ H Q => ∃ (Hb : Hp) (c : Cfg), Sr A B Hb H σ c ∧ TPost A B E Hb H σ Q (f c)
def DE (X : Cx) (A : Am) (B : Bs) (E : XK) (e : Expr) (f : EF) : Prop := PE X e (rdE A B E f)
def DT (X : Cx) (A : Am) (B : Bs) (E : XK) (e : Expr) (f : EF) : Prop := PT X e (rdT A B E f)
theorem PE.imp {X : Cx} {e : Expr} {t t' : TE} (h : PE X e t) (i : ∀ σ H Q, t' σ H Q → t σ H Q) : PE X e t' := ⟨fun pins s σ H Q I q => h.run pins s σ H Q I (i σ H Q q)⟩
theorem PT.imp {X : Cx} {e : Expr} {t t' : TT} (h : PT X e t) (i : ∀ σ H Q, t' σ H Q → t σ H Q) : PT X e t' := ⟨fun pins s σ H Q I q => h.run pins s σ H Q I (i σ H Q q)⟩
theorem PA.imp {X : Cx} {es : List Expr} {t t' : TA} (h : PA X es t) (i : ∀ σ H Q, t' σ H Q → t σ H Q) : PA X es t' := ⟨fun p pins s σ H Q I q => h.run p pins s σ H Q I (i σ H Q q)⟩
theorem PS.imp {X : Cx} {st : Stmt} {t t' : TS} (h : PS X st t) (i : ∀ D σ H, t' D σ H → t D σ H) : PS X st t' := ⟨fun pins s σ H D I q => h.run pins s σ H D I (i D σ H q)⟩
theorem PSs.imp {X : Cx} {st : List Stmt} {t t' : TS} (h : PSs X st t) (i : ∀ D σ H, t' D σ H → t D σ H) : PSs X st t' := ⟨fun pins s σ H D I q => h.run pins s σ H D I (i D σ H q)⟩

section
variable {X : Cx} {A : Am} {B : Bs} {E : XK} {Hb H Hb1 H1 : Hp} {σ : List (Option V)} {c c1 : Cfg} {Q : VK} {r : ER} {fa fb : EF}
theorem EPost.mono (s : Stp A Hb H Hb1 H1) (h : EPost A B E Hb H σ Q r) : EPost A B E Hb1 H1 σ Q r := by
  cases r with
  | ok k d c' => exact fun v Hb' H' s1 t k => h v Hb' H' s1 (s.trans t) k
  | exc x W => exact h
  | bad => exact h
theorem TPost.mono {Q : Bool → Hp → Prop} (s : Stp A Hb H Hb1 H1) (h : TPost A B E Hb H σ Q r) : TPost A B E Hb1 H1 σ Q r := by
  cases r with
  | ok k d c' =>
    obtain ⟨b, e, g⟩ := h
    exact ⟨b, e, fun Hb' H' s1 t => g Hb' H' s1 (s.trans t)⟩
  | exc x W => exact h
  | bad => exact h
/-- first this, then what follows -/
theorem rd_then {K : Kd → D → Cfg → ER} {Q' : VK} (s : Sr A B Hb H σ c) (h : EPost A B E Hb H σ Q ((fa c).bind K))
    (n : ∀ k d c1 v Hb1 H1, fa c = .ok k d c1 → Sr A B Hb1 H1 σ c1 → Stp A Hb H Hb1 H1 → RepK A B Hb1 H1 σ c1 k d v → EPost A B E Hb1 H1 σ Q (K k d c1) → Q' v H1) : rdE A B E fa σ H Q' := by
  refine ⟨Hb, c, s, ?_⟩
  cases e : fa c with
  | ok k d c1 =>
    rw [e] at h
    exact fun v Hb1 H1 s1 t k1 => n k d c1 v Hb1 H1 e s1 t k1 (h.mono t)
  | exc x W =>
    rw [e] at h
    exact h
  | bad =>
    rw [e] at h
    exact h
theorem rd_thenT {K : Kd → D → Cfg → ER} {Q : Bool → Hp → Prop} {Q' : VK} (s : Sr A B Hb H σ c) (h : TPost A B E Hb H σ Q ((fa c).bind K))
    (n : ∀ k d c1 v Hb1 H1, fa c = .ok k d c1 → Sr A B Hb1 H1 σ c1 → Stp A Hb H Hb1 H1 → RepK A B Hb1 H1 σ c1 k d v → TPost A B E Hb1 H1 σ Q (K k d c1) → Q' v H1) : rdE A B E fa σ H Q' := by
  refine ⟨Hb, c, s, ?_⟩
  cases e : fa c with
  | ok k d c1 =>
    rw [e] at h
    exact fun v Hb1 H1 s1 t k1 => n k d c1 v Hb1 H1 e s1 t k1 (h.mono t)
  | exc x W =>
    rw [e] at h
    exact h
  | bad =>
    rw [e] at h
    exact h
/-- first a test, then what follows -/
theorem rt_then {K : Bool → Cfg → ER} {Q' : Bool → Hp → Prop} (s : Sr A B Hb H σ c) (h : EPost A B E Hb H σ Q ((fa c).bind fun _ d c1 => match d with | .bl b => K b c1 | _ => .bad))
    (n : ∀ b c1 Hb1 H1, Sr A B Hb1 H1 σ c1 → Stp A Hb H Hb1 H1 → EPost A B E Hb1 H1 σ Q (K b c1) → Q' b H1) : rdT A B E fa σ H Q' := by
  refine ⟨Hb, c, s, ?_⟩
  cases e : fa c with
  | ok k d c1 =>
    rw [e] at h
    cases d with
    | bl b => exact ⟨b, rfl, fun Hb1 H1 s1 t => n b c1 Hb1 H1 s1 t (h.mono t)⟩
    | _ => exact False.elim h
  | exc x W =>
    rw [e] at h
    exact h
  | bad =>
    rw [e] at h
    exact h
theorem rt_thenT {K : Bool → Cfg → ER} {Q Q' : Bool → Hp → Prop} (s : Sr A B Hb H σ c) (h : TPost A B E Hb H σ Q ((fa c).bind fun _ d c1 => match d with | .bl b => K b c1 | _ => .bad))
    (n : ∀ b c1 Hb1 H1, Sr A B Hb1 H1 σ c1 → Stp A Hb H Hb1 H1 → TPost A B E Hb1 H1 σ Q (K b c1) → Q' b H1) : rdT A B E fa σ H Q' := by
  refine ⟨Hb, c, s, ?_⟩
  cases e : fa c with
  | ok k d c1 =>
    rw [e] at h
    cases d with
    | bl b => exact ⟨b, rfl, fun Hb1 H1 s1 t => n b c1 Hb1 H1 s1 t (h.mono t)⟩
    | _ => exact False.elim h
  | exc x W =>
    rw [e] at h
    exact h
  | bad =>
    rw [e] at h
    exact h

/-! ### names, constants -/
def evV (i : Nat) : EF := fun c => match c.r[i]? with
  | some (some (false, d)) => .ok .st d c
  | some (some (true, d)) => .ok .st d (c.put i (some (false, d)))
  | _ => .bad
def evB (i : Nat) : EF := fun c => match c.r[i]? with
  | some (some (_, d)) => .ok .bo d c
  | _ => .bad
def evM (i : Nat) : EF := fun c => match c.r[i]? with
  | some (some (false, d)) => .ok .st d c
  | some (some (true, d)) => .ok .fr d (c.put i none)
  | _ => .bad
def evC (d : D) : EF := fun c => .ok .st d c
theorem de_var {i : Nat} {e : Expr} (h : PE X e (tVar i)) : DE X A B E e (evV i) := PE.imp h fun σ H Q ⟨Hb, c, s, q⟩ => by
  unfold evV at q
  split at q
  · rename_i d e
    obtain ⟨v, h1, h2⟩ := s.sh i d e
    exact ⟨v, h1, q v Hb H s .refl h2⟩
  · rename_i d e
    obtain ⟨a, Hb', h1, s1, h2, h3⟩ := s.share e
    exact ⟨_, h1, q _ Hb' H s1 ⟨h2, .refl _⟩ h3⟩
  · exact False.elim q
theorem de_bor {i : Nat} {e : Expr} (h : PE X e (tVar i)) : DE X A B E e (evB i) := PE.imp h fun σ H Q ⟨Hb, c, s, q⟩ => by
  unfold evB at q
  split at q
  · rename_i b d e
    cases b with
    | false =>
      obtain ⟨v, h1, h2⟩ := s.sh i d e
      exact ⟨v, h1, q v Hb H s .refl (.inl h2)⟩
    | true =>
      obtain ⟨a, o, h1, h2, h3, h4, h5, h6⟩ := s.ow i d e
      exact ⟨_, h1, q _ Hb H s .refl (.inr ⟨a, o, rfl, h2, h3, h5⟩)⟩
  · exact False.elim q
theorem de_mov {i : Nat} {e : Expr} (h : PE X e (tVar i)) : DE X A B E e (evM i) := PE.imp h fun σ H Q ⟨Hb, c, s, q⟩ => by
  unfold evM at q
  split at q
  · rename_i d e
    obtain ⟨v, h1, h2⟩ := s.sh i d e
    exact ⟨v, h1, q v Hb H s .refl h2⟩
  · rename_i d e
    obtain ⟨a, o, h1, h2, h3, h4, h5, h6⟩ := s.ow i d e
    refine ⟨_, h1, q _ Hb H (s.drop i) .refl ⟨a, ⟨o, rfl, h2, h3, h4, h5, h6, fun z => (s.pr a z).2.2 i d e h1⟩, fun j e' hj => ?_⟩⟩
    rcases put_get hj with ⟨rfl, z⟩ | ⟨n, z⟩
    · cases z
    · exact fun z2 => n (s.sep j i e' d a z e z2 h1)
  · exact False.elim q
theorem de_c {e : Expr} {v : V} {d : D} (h : PE X e (tC v)) (r : ∀ Hb, Rep A Hb d v) : DE X A B E e (evC d) := PE.imp h fun σ H Q ⟨Hb, c, s, q⟩ => q v Hb H s .refl (r Hb)
theorem de_int {i j pos} : DE X A B E (.Constant (.int i) j pos) (evC (.int i)) := de_c pe_int fun _ => rep_int.mpr rfl
theorem de_bl {b j pos} : DE X A B E (.Constant (.bool b) j pos) (evC (.bl b)) := de_c pe_bl fun _ => rep_bl.mpr rfl
theorem de_non {j pos} : DE X A B E (.Constant .none j pos) (evC .non) := de_c pe_non fun _ => rep_non.mpr rfl
theorem de_str {x j pos} : DE X A B E (.Constant (.str x) j pos) (evC (.str x)) := de_c pe_str fun _ => rep_str.mpr rfl

/-! ### operators -/
/-- a two-place operation told by data -/
def OpS (A : Am) (r : R2) (g : D → D → Option (Kd × D)) : Prop := ∀ (B : Bs) (Hb H : Hp) (σ : List (Option V)) (c : Cfg) (da db : D) (x y : V) (k : Kd) (d : D) (Q : VK), Sr A B Hb H σ c → RepO A Hb H da x → RepO A Hb H db y → g da db = some (k, d) →
  (∀ v Hb' H', Sr A B Hb' H' σ c → Stp A Hb H Hb' H' → RepK A B Hb' H' σ c k d v → Q v H') → r x y H Q
def OpD (X : Cx) (A : Am) (f : Value → Value → Sem Value) (g : D → D → Option (Kd × D)) : Prop := ∃ r, OpR X f r ∧ OpS A r g
def ofO (c : Cfg) : Option (Kd × D) → ER
  | some (k, d) => .ok k d c
  | none => .bad
@[simp] theorem ofO_some {c k d} : ofO c (some (k, d)) = .ok k d c := rfl
@[simp] theorem ofO_none {c} : ofO c none = .bad := rfl
def ev2 (g : D → D → Option (Kd × D)) (fa fb : EF) : EF := fun c => (fa c).bind fun _ da c1 => (fb c1).bind fun _ db c2 => ofO c2 (g da db)
theorem OpD.or {f : Value → Value → Sem Value} {g g' : D → D → Option (Kd × D)} (h : OpD X A f g) (h' : OpD X A f g') : OpD X A f (fun a b => (g a b).orElse fun _ => g' a b) := by
  obtain ⟨r, h1, h2⟩ := h
  obtain ⟨r', h1', h2'⟩ := h'
  refine ⟨_, h1.or h1', fun B Hb H σ c da db x y k d Q s hx hy e q => ?_⟩
  dsimp only at e
  cases eg : g da db with
  | some p =>
    rw [eg] at e
    cases e
    exact .inl (h2 B Hb H σ c da db x y k d Q s hx hy eg q)
  | none =>
    rw [eg] at e
    exact .inr (h2' B Hb H σ c da db x y k d Q s hx hy e q)
theorem de_tOp {e : Expr} {r : R2} {g : D → D → Option (Kd × D)} {ta tb : TE} (hs : OpS A r g) (h : PE X e (tOp r (rdE A B E fa) (rdE A B E fb))) : DE X A B E e (ev2 g fa fb) :=
  PE.imp h fun σ H Q ⟨Hb, c, s, q⟩ => by
    refine rd_then s q fun k d c1 v Hb1 H1 _ s1 t1 k1 q1 => ?_
    refine rd_then s1 q1 fun k' d' c2 v' Hb2 H2 _ s2 t2 k2 q2 => ?_
    cases eg : g d d' with
    | none =>
      rw [eg] at q2
      exact False.elim q2
    | some p =>
      obtain ⟨kk, dd⟩ := p
      rw [eg] at q2
      exact hs B Hb2 H2 σ c2 d d' v v' kk dd Q s2 ((k1.o).mono t2) k2.o eg q2
theorem de_op {op : Operator} {g : D → D → Option (Kd × D)} {a b : Expr} {pos : Pos} (ho : OpD X A (binaryOp op) g) (ha : DE X A B E a fa) (hb : DE X A B E b fb) : DE X A B E (.BinOp a op b pos) (ev2 g fa fb) := by
  obtain ⟨r, h1, h2⟩ := ho
  exact de_tOp (ta := rdE A B E fa) (tb := rdE A B E fb) h2 (pe_op h1 ha hb)
theorem de_cmp {op : CmpOp} {g : D → D → Option (Kd × D)} {a b : Expr} {pos : Pos} (ho : OpD X A (compareOp op) g) (ha : DE X A B E a fa) (hb : DE X A B E b fb) (hm : behindInMarks op b = false) : DE X A B E (.Compare a [op] [b] pos) (ev2 g fa fb) := by
  obtain ⟨r, h1, h2⟩ := ho
  exact de_tOp (ta := rdE A B E fa) (tb := rdE A B E fb) h2 (pe_cmpR h1 ha hb hm)
/-- a test by a value that is a bool -/
theorem dt_of {e : Expr} {fa : EF} (h : PT X e (tB (rdE A B E fa))) : DT X A B E e fa := PT.imp h fun σ H Q ⟨Hb, c, s, q⟩ => by
  refine ⟨Hb, c, s, ?_⟩
  cases ef : fa c with
  | ok k d c1 =>
    rw [ef] at q
    obtain ⟨b, rfl, g⟩ := q
    refine fun v Hb' H' s1 t1 k1 => ⟨b, ?_, g Hb' H' s1 t1⟩
    rcases k1.o with z | ⟨a, o, _, _, z, _⟩
    · exact rep_bl.mp z
    · exact z.elim
  | exc x W =>
    rw [ef] at q
    exact q
  | bad =>
    rw [ef] at q
    exact q
theorem dt_cmp {op : CmpOp} {g : D → D → Option (Kd × D)} {a b : Expr} {pos : Pos} (ho : OpD X A (compareOp op) g) (ha : DE X A B E a fa) (hb : DE X A B E b fb) (hm : behindInMarks op b = false) : DT X A B E (.Compare a [op] [b] pos) (ev2 g fa fb) := by
  obtain ⟨r, h1, h2⟩ := ho
  refine dt_of (PT.imp (pt_cmpR h1 ha hb hm) fun σ H Q z => ?_)
  obtain ⟨Hb, c, s, q⟩ := z
  show tOp r (rdE A B E fa) (rdE A B E fb) σ H _
  refine rd_then s q fun k d c1 v Hb1 H1 _ s1 t1 k1 q1 => ?_
  refine rd_then s1 q1 fun k' d' c2 v' Hb2 H2 _ s2 t2 k2 q2 => ?_
  cases eg : g d d' with
  | none =>
    rw [eg] at q2
    exact False.elim q2
  | some p =>
    obtain ⟨kk, dd⟩ := p
    rw [eg] at q2
    exact h2 B Hb2 H2 σ c2 d d' v v' kk dd _ s2 ((k1.o).mono t2) k2.o eg q2
end
end DL
namespace DL
open PySem PySem.Spec PyProof.Rows L2

/-! ### data and the library's data -/
mutual
def D.py : D → Option PyData
  | .non => some .none
  | .bl b => some (.bool b)
  | .int i => some (.int i)
  | .str x => some (.str x)
  | .tup ds => (pyL ds).map PyData.tuple
  | .lst ds => (pyL ds).map PyData.list
  | .obj _ _ _ => none
  | .deal => none
def pyL : List D → Option (List PyData)
  | [] => some []
  | d :: ds => match D.py d with
    | some p => (pyL ds).map (p :: ·)
    | none => none
end
mutual
theorem Rep.dp {A : Am} {H : Hp} : ∀ (d : D) (v : V) (p : PyData), Rep A H d v → d.py = some p → Dp A.K H v p
  | .non, v, p, h, e => by
    unfold D.py at e; cases e
    rw [rep_non.mp h]; exact .non
  | .bl b, v, p, h, e => by
    unfold D.py at e; cases e
    rw [rep_bl.mp h]; exact .bl b
  | .int i, v, p, h, e => by
    unfold D.py at e; cases e
    rw [rep_int.mp h]; exact .int i
  | .str x, v, p, h, e => by
    unfold D.py at e; cases e
    rw [rep_str.mp h]; exact .str x
  | .tup ds, v, p, h, e => by
    unfold D.py at e
    obtain ⟨a, xs, rfl, h2, h3⟩ := rep_tup.mp h
    cases q : pyL ds with
    | none => rw [q] at e; cases e
    | some ps =>
      rw [q] at e; cases e
      exact .tup (SqT.of h2) (RepL.dp ds xs ps h3 q)
  | .lst ds, v, p, h, e => by
    unfold D.py at e
    obtain ⟨a, xs, rfl, h2, h3⟩ := rep_lst.mp h
    cases q : pyL ds with
    | none => rw [q] at e; cases e
    | some ps =>
      rw [q] at e; cases e
      exact .lst (SqL.of h2) (RepL.dp ds xs ps h3 q)
  | .obj _ _ _, v, p, h, e => by unfold D.py at e; cases e
  | .deal, v, p, h, e => by unfold D.py at e; cases e
theorem RepL.dp {A : Am} {H : Hp} : ∀ (ds : List D) (vs : List V) (ps : List PyData), RepL A H ds vs → pyL ds = some ps → DpAll A.K H vs ps
  | [], vs, ps, h, e => by
    unfold pyL at e; cases e
    rw [repL_nil.mp h]; exact .nil
  | d :: ds, vs, ps, h, e => by
    obtain ⟨x, r, rfl, hx, t⟩ := repL_cons.mp h
    unfold pyL at e
    cases q : d.py with
    | none => rw [q] at e; cases e
    | some p =>
      rw [q] at e
      cases q2 : pyL ds with
      | none => rw [q2] at e; cases e
      | some qs =>
        rw [q2] at e; cases e
        exact .cons (Rep.dp d x p hx q) (RepL.dp ds r qs t q2)
end
@[simp] theorem py_non : D.py .non = some .none := by unfold D.py; rfl
@[simp] theorem py_bl {b} : D.py (.bl b) = some (.bool b) := by unfold D.py; rfl
@[simp] theorem py_int {i} : D.py (.int i) = some (.int i) := by unfold D.py; rfl
@[simp] theorem py_str {x} : D.py (.str x) = some (.str x) := by unfold D.py; rfl
@[simp] theorem py_tup {ds} : D.py (.tup ds) = (pyL ds).map PyData.tuple := by conv => lhs; unfold D.py
@[simp] theorem py_lst {ds} : D.py (.lst ds) = (pyL ds).map PyData.list := by conv => lhs; unfold D.py
@[simp] theorem pyL_nil : pyL [] = some [] := by unfold pyL; rfl
@[simp] theorem pyL_cons {d ds} : pyL (d :: ds) = match D.py d with | some p => (pyL ds).map (p :: ·) | none => none := by conv => lhs; unfold pyL
section
variable {X : Cx} {A : Am} {B : Bs} {E : XK} {Hb H Hb1 H1 : Hp} {σ : List (Option V)} {c c1 : Cfg} {r : ER} {fa fb : EF} {d : D} {v : V}
/-- an operand, seen in the whole heap -/
theorem RepO.whole (f : Same Hb H) (h : RepO A Hb H d v) : Rep A H d v := by
  rcases h with h | ⟨a, o, rfl, h2, h3, h4⟩
  · exact Rep.mono f _ _ h
  · cases d with
    | lst ds =>
      obtain ⟨xs, rfl, h5⟩ := h3
      exact rep_lst.mpr ⟨a, xs, rfl, h2, RepL.mono f _ _ h5⟩
    | _ => exact h3.elim
theorem Sr.same (s : Sr A B Hb H σ c) : Same Hb H := s.fin.hr.same
theorem RepO.int {i : Int} (h : RepO A Hb H (.int i) v) : v = .int i := by
  rcases h with h | ⟨a, o, _, _, z, _⟩
  · exact rep_int.mp h
  · exact z.elim
theorem RepO.bl {i : Bool} (h : RepO A Hb H (.bl i) v) : v = .bl i := by
  rcases h with h | ⟨a, o, _, _, z, _⟩
  · exact rep_bl.mp h
  · exact z.elim
theorem RepO.str {i : Str} (h : RepO A Hb H (.str i) v) : v = .str i := by
  rcases h with h | ⟨a, o, _, _, z, _⟩
  · exact rep_str.mp h
  · exact z.elim
theorem RepO.non (h : RepO A Hb H .non v) : v = .non := by
  rcases h with h | ⟨a, o, _, _, z, _⟩
  · exact rep_non.mp h
  · exact z.elim
theorem RepO.tup {ds : List D} (h : RepO A Hb H (.tup ds) v) : ∃ a xs, v = .ref a ∧ Hb a = some (.tup xs) ∧ RepL A Hb ds xs := by
  rcases h with h | ⟨a, o, _, _, z, _⟩
  · exact rep_tup.mp h
  · exact z.elim
theorem RepO.lst {ds : List D} (f : Same Hb H) (h : RepO A Hb H (.lst ds) v) : ∃ a xs, v = .ref a ∧ H a = some (.lst xs) ∧ RepL A Hb ds xs := by
  rcases h with h | ⟨a, o, h1, h2, z, _⟩
  · obtain ⟨a, xs, h1, h2, h3⟩ := rep_lst.mp h
    exact ⟨a, xs, h1, f _ _ h2, h3⟩
  · obtain ⟨xs, rfl, h5⟩ := z
    exact ⟨a, xs, h1, h2, h5⟩
/-- a new tuple, known for good -/
theorem Sr.newTup {p : Addr} {xs : List V} {ds : List D} (s : Sr A B Hb H σ c) (hp : H p = none) (h : RepL A Hb ds xs) :
    Sr A B (upd Hb p (.tup xs)) (upd H p (.tup xs)) σ c ∧ Stp A Hb H (upd Hb p (.tup xs)) (upd H p (.tup xs)) ∧ Rep A (upd Hb p (.tup xs)) (.tup ds) (.ref p) := by
  have nb := s.fin.hr.freshB hp
  have s1 := s.new (o := .tup xs) hp
  have ow : ∀ i d', c.r[i]? = some (some (true, d')) → σ[i]? ≠ some (some (V.ref p)) := fun i d' h z => by
    obtain ⟨a, o, h1, h2, _⟩ := s.ow i d' h
    rw [h1] at z
    cases z
    rw [hp] at h2
    cases h2
  have np : ¬ B.pr p := fun z => by
    obtain ⟨⟨o, h1⟩, _⟩ := s.pr p z
    rw [hp] at h1
    cases h1
  refine ⟨s1.frz upd_same nb (s.fin.hr.fresh hp) (s.fin.h0n hp) np (fun ps z => by cases z) ow, ⟨same_upd nb, .of (same_upd hp)⟩, rep_tup.mpr ⟨p, xs, rfl, upd_same, RepL.mono (same_upd nb) _ _ h⟩⟩
/-- a new list, held by nobody yet -/
theorem Sr.newLst {p : Addr} {xs : List V} {ds : List D} (s : Sr A B Hb H σ c) (hp : H p = none) (h : RepL A Hb ds xs) :
    Sr A B Hb (upd H p (.lst xs)) σ c ∧ Stp A Hb H Hb (upd H p (.lst xs)) ∧ RepK A B Hb (upd H p (.lst xs)) σ c .fr (.lst ds) (.ref p) := by
  have nb := s.fin.hr.freshB hp
  have np : ¬ B.pr p := fun z => by
    obtain ⟨⟨o, h1⟩, _⟩ := s.pr p z
    rw [hp] at h1
    cases h1
  refine ⟨s.new hp, ⟨Same.refl _, .of (same_upd hp)⟩, p, ⟨_, rfl, upd_same, ⟨xs, rfl, h⟩, nb, s.fin.hr.fresh hp, s.fin.h0n hp, np⟩, fun i d' h z => ?_⟩
  obtain ⟨a, o, h1, h2, _⟩ := s.ow i d' h
  rw [h1] at z
  cases z
  rw [hp] at h2
  cases h2

theorem rk_int {i : Int} : RepK A B Hb H σ c .st (.int i) (.int i) := (rep_int (A := A) (H := Hb)).mpr rfl
theorem rk_bl {i : Bool} : RepK A B Hb H σ c .st (.bl i) (.bl i) := (rep_bl (A := A) (H := Hb)).mpr rfl
theorem rk_non : RepK A B Hb H σ c .st .non .non := (rep_non (A := A) (H := Hb)).mpr rfl
theorem rk_str {i : Str} : RepK A B Hb H σ c .st (.str i) (.str i) := (rep_str (A := A) (H := Hb)).mpr rfl
/-! ### operators on ints -/
def gI (g : Int → Int → Option D) : D → D → Option (Kd × D)
  | .int i, .int j => (g i j).map fun d => (.st, d)
  | _, _ => none
theorem gI_inv {g : Int → Int → Option D} {da db : D} {k : Kd} {d : D} (h : gI g da db = some (k, d)) : ∃ i j, da = .int i ∧ db = .int j ∧ g i j = some d ∧ k = .st := by
  unfold gI at h
  split at h
  · rename_i i j
    cases q : g i j with
    | none => rw [q] at h; cases h
    | some d' => rw [q] at h; cases h; exact ⟨i, j, rfl, rfl, q, rfl⟩
  · cases h
theorem od_I {f : Value → Value → Sem Value} {C : Int → Int → Prop} {g : Int → Int → V} {gd : Int → Int → Option D} (h : OpR X f (rI C g)) (hg : ∀ i j d, gd i j = some d → C i j ∧ ∀ Hb, Rep A Hb d (g i j)) : OpD X A f (gI gd) := by
  refine ⟨_, h, fun B Hb H σ c da db x y k d Q s hx hy e q => ?_⟩
  obtain ⟨i, j, rfl, rfl, e1, rfl⟩ := gI_inv e
  obtain ⟨h1, h2⟩ := hg i j d e1
  exact ⟨i, j, hx.int, hy.int, h1, q _ Hb H s .refl (h2 Hb)⟩
theorem od_I0 {f : Value → Value → Sem Value} {g : Int → Int → V} {gd : Int → Int → D} (h : OpR X f (rI0 g)) (hg : ∀ i j Hb, Rep A Hb (gd i j) (g i j)) : OpD X A f (gI fun i j => some (gd i j)) := by
  refine ⟨_, h, fun B Hb H σ c da db x y k d Q s hx hy e q => ?_⟩
  obtain ⟨i, j, rfl, rfl, e1, rfl⟩ := gI_inv e
  cases e1
  exact ⟨i, j, hx.int, hy.int, q _ Hb H s .refl (hg i j Hb)⟩
def gAddI := gI fun i j => some (.int (i + j))
def gSubI := gI fun i j => some (.int (i - j))
def mulOk (i j : Int) : Bool := (decide (-(2 ^ 64) < i) && decide (i < 2 ^ 64)) || (decide (-(2 ^ 64) < j) && decide (j < 2 ^ 64)) || decide (i.natAbs.log2 + j.natAbs.log2 < 1000000)
def gMulI := gI fun i j => if mulOk i j then some (.int (i * j)) else none
def fdivOk (j : Int) : Bool := decide (0 < j) && decide (j.natAbs.log2 < 9000)
def gFdiv := gI fun i j => if fdivOk j then some (.int (i / j)) else none
def gMod := gI fun i j => if 0 < j then some (.int (i % j)) else none
def gPow := gI fun i j => if 0 ≤ j ∧ j ≤ 1000000 ∧ i.natAbs < 2 ^ 64 then some (.int (i ^ j.toNat)) else none
def gLt := gI fun i j => some (.bl (decide (i < j)))
def gLe := gI fun i j => some (.bl (decide (i ≤ j)))
def gGt := gI fun i j => some (.bl (decide (j < i)))
def gGe := gI fun i j => some (.bl (decide (j ≤ i)))
theorem od_addI : OpD X A (binaryOp .Add) gAddI := od_I0 op_add fun _ _ _ => rep_int.mpr rfl
theorem od_sub : OpD X A (binaryOp .Sub) gSubI := od_I0 op_sub fun _ _ _ => rep_int.mpr rfl
theorem od_isub : OpD X A (inplaceOp .Sub) gSubI := od_I0 iop_sub fun _ _ _ => rep_int.mpr rfl
theorem od_iaddI : OpD X A (inplaceOp .Add) gAddI := od_I0 iop_add fun _ _ _ => rep_int.mpr rfl
theorem od_lt : OpD X A (compareOp .Lt) gLt := od_I0 op_lt fun _ _ _ => rep_bl.mpr rfl
theorem od_le : OpD X A (compareOp .LtE) gLe := od_I0 op_le fun _ _ _ => rep_bl.mpr rfl
theorem od_gt : OpD X A (compareOp .Gt) gGt := od_I0 op_gt fun _ _ _ => rep_bl.mpr rfl
theorem od_ge : OpD X A (compareOp .GtE) gGe := od_I0 op_ge fun _ _ _ => rep_bl.mpr rfl
theorem od_mod : OpD X A (binaryOp .Mod) gMod := od_I op_mod fun i j d h => by
  split at h
  · rename_i hj
    cases h
    exact ⟨hj, fun _ => rep_int.mpr rfl⟩
  · cases h
theorem od_fdiv : OpD X A (binaryOp .FloorDiv) gFdiv := od_I op_fdivW fun i j d h => by
  split at h
  · rename_i hj
    cases h
    unfold fdivOk at hj
    rw [Bool.and_eq_true] at hj
    exact ⟨⟨of_decide_eq_true hj.1, of_decide_eq_true hj.2⟩, fun _ => rep_int.mpr rfl⟩
  · cases h
theorem od_pow : OpD X A (binaryOp .Pow) gPow := od_I op_pow fun i j d h => by
  split at h
  · rename_i hj
    cases h
    exact ⟨hj, fun _ => rep_int.mpr rfl⟩
  · cases h
theorem od_mulI : OpD X A (binaryOp .Mult) gMulI := by
  refine ⟨_, op_mul.or op_mulW, fun B Hb H σ c da db x y k d Q s hx hy e q => ?_⟩
  obtain ⟨i, j, rfl, rfl, e1, rfl⟩ := gI_inv e
  split at e1
  · rename_i hj
    cases e1
    have qq := q _ Hb H s .refl rk_int
    unfold mulOk at hj
    rw [Bool.or_eq_true, Bool.or_eq_true, Bool.and_eq_true, Bool.and_eq_true] at hj
    rcases hj with (⟨h1, h2⟩ | ⟨h1, h2⟩) | h3
    · exact .inl ⟨i, j, hx.int, hy.int, .inl ⟨of_decide_eq_true h1, of_decide_eq_true h2⟩, qq⟩
    · exact .inl ⟨i, j, hx.int, hy.int, .inr ⟨of_decide_eq_true h1, of_decide_eq_true h2⟩, qq⟩
    · exact .inr ⟨i, j, hx.int, hy.int, (show i.natAbs.log2 + j.natAbs.log2 < 1000000 from of_decide_eq_true h3), qq⟩
  · cases e1
/-! ### tuples, lists, texts put together -/
def big : Nat := 1000000
theorem big_le {n : Nat} (h : n ≤ big) : n ≤ sizeLine := Nat.le_trans h (by rw [sizeLine_eq]; decide)
def gCatT : D → D → Option (Kd × D)
  | .tup a, .tup b => if a.length + b.length ≤ big then some (.st, .tup (a ++ b)) else none
  | _, _ => none
def gCatL : D → D → Option (Kd × D)
  | .lst a, .lst b => if a.length + b.length ≤ big then some (.fr, .lst (a ++ b)) else none
  | _, _ => none
def gRepL : D → D → Option (Kd × D)
  | .lst a, .int k => if -(2 ^ 63) ≤ k ∧ k < 2 ^ 63 ∧ a.length * k.toNat ≤ big then some (.fr, .lst (List.replicate k.toNat a).flatten) else none
  | _, _ => none
theorem RepL.rep {ds : List D} {xs : List V} (h : RepL A Hb ds xs) : ∀ n : Nat, RepL A Hb (List.replicate n ds).flatten (List.replicate n xs).flatten
  | 0 => RepL.nil
  | n + 1 => by
    rw [List.replicate_succ, List.replicate_succ, List.flatten_cons, List.flatten_cons]
    exact h.append (RepL.rep h n)
theorem od_catT : OpD X A (binaryOp .Add) gCatT := by
  refine ⟨_, op_catA, fun B Hb H σ c da db x y k d Q s hx hy e q => ?_⟩
  unfold gCatT at e
  split at e
  · rename_i a b
    split at e
    · rename_i hl
      cases e
      obtain ⟨p1, xs, rfl, h1, h2⟩ := hx.tup
      obtain ⟨p2, ys, rfl, h3, h4⟩ := hy.tup
      have l1 := h2.len
      have l2 := h4.len
      refine ⟨p1, p2, xs, ys, rfl, rfl, SqT.of (s.same _ _ h1), SqT.of (s.same _ _ h3), big_le (by omega), fun e1 => ?_, fun e1 e2 => ?_, fun e1 e2 p hp => ?_⟩
      · subst e1
        have : a = [] := List.eq_nil_of_length_eq_zero (by simpa using l1)
        subst this
        exact q _ Hb H s .refl (rep_tup.mpr ⟨p2, ys, rfl, h3, h4⟩)
      · subst e2
        have : b = [] := List.eq_nil_of_length_eq_zero (by simpa using l2)
        subst this
        refine q _ Hb H s .refl (rep_tup.mpr ⟨p1, xs, rfl, h1, ?_⟩)
        rw [List.append_nil]
        exact h2
      · obtain ⟨s1, t1, r1⟩ := s.newTup hp (h2.append h4)
        exact q _ _ _ s1 t1 r1
    · cases e
  · cases e
theorem od_catL : OpD X A (binaryOp .Add) gCatL := by
  refine ⟨_, op_cat, fun B Hb H σ c da db x y k d Q s hx hy e q => ?_⟩
  unfold gCatL at e
  split at e
  · rename_i a b
    split at e
    · rename_i hl
      cases e
      obtain ⟨p1, xs, rfl, h1, h2⟩ := hx.lst s.same
      obtain ⟨p2, ys, rfl, h3, h4⟩ := hy.lst s.same
      have l1 := h2.len
      have l2 := h4.len
      refine ⟨p1, p2, xs, ys, rfl, rfl, h1, h3, big_le (by omega), fun p hp => ?_⟩
      obtain ⟨s1, t1, r1⟩ := s.newLst hp (h2.append h4)
      exact q _ _ _ s1 t1 r1
    · cases e
  · cases e
theorem od_repL : OpD X A (binaryOp .Mult) gRepL := by
  refine ⟨_, op_rep, fun B Hb H σ c da db x y k d Q s hx hy e q => ?_⟩
  unfold gRepL at e
  split at e
  · rename_i a n
    split at e
    · rename_i hl
      cases e
      obtain ⟨p1, xs, rfl, h1, h2⟩ := hx.lst s.same
      have l1 := h2.len
      refine ⟨p1, n, xs, rfl, hy.int, h1, hl.1, hl.2.1, big_le (by rw [← l1]; exact hl.2.2), fun p hp => ?_⟩
      obtain ⟨s1, t1, r1⟩ := s.newLst hp (h2.rep n.toNat)
      exact q _ _ _ s1 t1 r1
    · cases e
  · cases e
def gAdd : D → D → Option (Kd × D) := fun a b => (gAddI a b).orElse fun _ => (gCatT a b).orElse fun _ => gCatL a b
def gMul : D → D → Option (Kd × D) := fun a b => (gMulI a b).orElse fun _ => gRepL a b
theorem od_add : OpD X A (binaryOp .Add) gAdd := od_addI.or (od_catT.or od_catL)
theorem od_mul : OpD X A (binaryOp .Mult) gMul := od_mulI.or od_repL
@[simp] theorem gAdd_int {i j : Int} : gAdd (.int i) (.int j) = some (.st, .int (i + j)) := rfl
@[simp] theorem gAdd_tup {a b : List D} : gAdd (.tup a) (.tup b) = if a.length + b.length ≤ big then some (.st, .tup (a ++ b)) else none := by
  unfold gAdd gAddI gI gCatT
  by_cases h : a.length + b.length ≤ big <;> simp [h, gCatL]
@[simp] theorem gAdd_lst {a b : List D} : gAdd (.lst a) (.lst b) = if a.length + b.length ≤ big then some (.fr, .lst (a ++ b)) else none := by
  unfold gAdd gAddI gI gCatT gCatL
  simp
@[simp] theorem gSub_int {i j : Int} : gSubI (.int i) (.int j) = some (.st, .int (i - j)) := rfl
@[simp] theorem gMul_int {i j : Int} : gMul (.int i) (.int j) = if mulOk i j then some (.st, .int (i * j)) else none := by
  unfold gMul gMulI gI gRepL
  by_cases h : mulOk i j = true <;> simp [h]
@[simp] theorem gMul_lst {a : List D} {k : Int} : gMul (.lst a) (.int k) = if -(2 ^ 63) ≤ k ∧ k < 2 ^ 63 ∧ a.length * k.toNat ≤ big then some (.fr, .lst (List.replicate k.toNat a).flatten) else none := by
  unfold gMul gMulI gI gRepL
  simp
@[simp] theorem gFdiv_int {i j : Int} : gFdiv (.int i) (.int j) = if fdivOk j then some (.st, .int (i / j)) else none := by
  unfold gFdiv gI
  by_cases h : fdivOk j = true <;> simp [h]
@[simp] theorem gMod_int {i j : Int} : gMod (.int i) (.int j) = if 0 < j then some (.st, .int (i % j)) else none := by
  unfold gMod gI
  by_cases h : 0 < j <;> simp [h]
@[simp] theorem gPow_int {i j : Int} : gPow (.int i) (.int j) = if 0 ≤ j ∧ j ≤ 1000000 ∧ i.natAbs < 2 ^ 64 then some (.st, .int (i ^ j.toNat)) else none := by
  unfold gPow gI
  by_cases h : 0 ≤ j ∧ j ≤ 1000000 ∧ i.natAbs < 2 ^ 64 <;> simp [h]
@[simp] theorem gLt_int {i j : Int} : gLt (.int i) (.int j) = some (.st, .bl (decide (i < j))) := rfl
@[simp] theorem gLe_int {i j : Int} : gLe (.int i) (.int j) = some (.st, .bl (decide (i ≤ j))) := rfl
@[simp] theorem gGt_int {i j : Int} : gGt (.int i) (.int j) = some (.st, .bl (decide (j < i))) := rfl
@[simp] theorem gGe_int {i j : Int} : gGe (.int i) (.int j) = some (.st, .bl (decide (j ≤ i))) := rfl
/-! ### equality, is, in -/
def eqD (a b : D) : Option Bool := match a.py, b.py with
  | some p, some q => if SeqAt.shaped p && SeqAt.shaped q then some (PyData.eqv p q) else none
  | _, _ => none
def gEq (a b : D) : Option (Kd × D) := (eqD a b).map fun b => (.st, .bl b)
def gNe (a b : D) : Option (Kd × D) := (eqD a b).map fun b => (.st, .bl (!b))
theorem eqD_inv {a b : D} {t : Bool} (h : eqD a b = some t) : ∃ p q, a.py = some p ∧ b.py = some q ∧ SeqAt.shaped p = true ∧ SeqAt.shaped q = true ∧ t = PyData.eqv p q := by
  unfold eqD at h
  split at h
  · rename_i p q e1 e2
    split at h
    · rename_i hs
      rw [Bool.and_eq_true] at hs
      cases h
      exact ⟨p, q, e1, e2, hs.1, hs.2, rfl⟩
    · cases h
  · cases h
theorem od_eq (hK : X.K = A.K) (hu : X.A.units + 64 < cLine) : OpD X A (compareOp .Eq) gEq := by
  refine ⟨_, op_eqD hu, fun B Hb H σ c da db x y k d Q s hx hy e q => ?_⟩
  unfold gEq at e
  cases he : eqD da db with
  | none => rw [he] at e; cases e
  | some t =>
    rw [he] at e
    cases e
    obtain ⟨p, p', e1, e2, h1, h2, rfl⟩ := eqD_inv he
    refine ⟨p, p', ?_, ?_, h1, h2, q _ Hb H s .refl rk_bl⟩
    · rw [hK]; exact (hx.whole s.same).dp _ _ _ e1
    · rw [hK]; exact (hy.whole s.same).dp _ _ _ e2
theorem od_ne (hK : X.K = A.K) (hu : X.A.units + 64 < cLine) : OpD X A (compareOp .NotEq) gNe := by
  refine ⟨_, op_neD hu, fun B Hb H σ c da db x y k d Q s hx hy e q => ?_⟩
  unfold gNe at e
  cases he : eqD da db with
  | none => rw [he] at e; cases e
  | some t =>
    rw [he] at e
    cases e
    obtain ⟨p, p', e1, e2, h1, h2, rfl⟩ := eqD_inv he
    refine ⟨p, p', ?_, ?_, h1, h2, q _ Hb H s .refl rk_bl⟩
    · rw [hK]; exact (hx.whole s.same).dp _ _ _ e1
    · rw [hK]; exact (hy.whole s.same).dp _ _ _ e2
def isNon : D → Bool
  | .non => true
  | _ => false
def gIsN (a b : D) : Option (Kd × D) := if isNon b then some (.st, .bl (isNon a)) else none
def gNotN (a b : D) : Option (Kd × D) := if isNon b then some (.st, .bl (!isNon a)) else none
theorem RepO.isNon (h : RepO A Hb H d v) : decide (v = .non) = isNon d := by
  rcases h with h | ⟨a, o, rfl, _, z, _⟩
  · cases d with
    | non => rw [rep_non.mp h]; rfl
    | bl b => rw [rep_bl.mp h]; rfl
    | int b => rw [rep_int.mp h]; rfl
    | str b => rw [rep_str.mp h]; rfl
    | tup ds => obtain ⟨a, xs, rfl, _⟩ := rep_tup.mp h; rfl
    | lst ds => obtain ⟨a, xs, rfl, _⟩ := rep_lst.mp h; rfl
    | obj C ns ds =>
      unfold Rep at h
      obtain ⟨a, dx, fs, rfl, _⟩ := h
      rfl
    | deal =>
      unfold Rep at h
      obtain ⟨w, _, rfl⟩ := h
      rfl
  · cases d with
    | lst ds => rfl
    | _ => exact z.elim
theorem od_isN : OpD X A (compareOp .Is) gIsN := by
  refine ⟨_, op_isN, fun B Hb H σ c da db x y k d Q s hx hy e q => ?_⟩
  unfold gIsN at e
  split at e
  · rename_i hb
    cases e
    have : db = .non := by cases db <;> first | rfl | cases hb
    subst this
    refine ⟨hy.non, ?_⟩
    rw [hx.isNon]
    exact q _ Hb H s .refl rk_bl
  · cases e
theorem od_notN : OpD X A (compareOp .IsNot) gNotN := by
  refine ⟨_, op_notN, fun B Hb H σ c da db x y k d Q s hx hy e q => ?_⟩
  unfold gNotN at e
  split at e
  · rename_i hb
    cases e
    have : db = .non := by cases db <;> first | rfl | cases hb
    subst this
    refine ⟨hy.non, ?_⟩
    rw [hx.isNon]
    exact q _ Hb H s .refl rk_bl
  · cases e
end
end DL
namespace DL
open PySem PySem.Spec PyProof.Rows L2

/-! ### arguments that are kept for good -/
inductive AR where
  | ok (ds : List D) (c : Cfg) | exc (x : XD) (W : Wd) | bad
abbrev AF := Cfg → AR
def APost (A : Am) (B : Bs) (E : XK) (Hb H : Hp) (σ : L2.St) (Q : List V → Hp → Prop) : AR → Prop
  | .ok ds c' => ∀ (vs : List V) (Hb' H' : Hp), Sr A B Hb' H' σ c' → Stp A Hb H Hb' H' → RepL A Hb' ds vs → Q vs H'
  | .exc x W' => ExcW A B E x W'
  | .bad => False
def rdA (A : Am) (B : Bs) (E : XK) (f : AF) : TA := fun σ H Q => ∃ (Hb : Hp) (c : Cfg), Sr A B Hb H σ c ∧ APost A B E Hb H σ Q (f c)
def DA (X : Cx) (A : Am) (B : Bs) (E : XK) (es : List Expr) (f : AF) : Prop := PA X es (rdA A B E f)
def DK (X : Cx) (A : Am) (B : Bs) (E : XK) (ks : List Keyword) (f : AF) : Prop := PK X ks (rdA A B E f)
def AR.bind (r : AR) (f : List D → Cfg → ER) : ER := match r with
  | .ok ds c => f ds c
  | .exc x W => .exc x W
  | .bad => .bad
@[simp] theorem abind_ok {d c} {f : List D → Cfg → ER} : (AR.ok d c).bind f = f d c := rfl
@[simp] theorem abind_exc {x W} {f : List D → Cfg → ER} : (AR.exc x W).bind f = .exc x W := rfl
@[simp] theorem abind_bad {f : List D → Cfg → ER} : AR.bad.bind f = .bad := rfl
def AR.cons (d : D) : AR → AR
  | .ok ds c => .ok (d :: ds) c
  | .exc x W => .exc x W
  | .bad => .bad
@[simp] theorem acons_ok {d ds c} : (AR.ok ds c).cons d = .ok (d :: ds) c := rfl
@[simp] theorem acons_exc {d x W} : (AR.exc x W).cons d = .exc x W := rfl
@[simp] theorem acons_bad {d} : AR.bad.cons d = .bad := rfl
def evNil : AF := fun c => .ok [] c
def evCons (f : EF) (g : AF) : AF := fun c => match f c with
  | .ok .bo _ _ => .bad
  | .ok _ d c1 => (g c1).cons d
  | .exc x W => .exc x W
  | .bad => .bad
section
variable {X : Cx} {A : Am} {B : Bs} {E : XK} {Hb H Hb1 H1 : Hp} {σ : List (Option V)} {c c1 : Cfg} {Q : VK} {fa fb fc : EF} {ga : AF}
theorem APost.mono {QA : List V → Hp → Prop} {r : AR} (s : Stp A Hb H Hb1 H1) (h : APost A B E Hb H σ QA r) : APost A B E Hb1 H1 σ QA r := by
  cases r with
  | ok ds c' => exact fun v Hb' H' s1 t k => h v Hb' H' s1 (s.trans t) k
  | exc x W => exact h
  | bad => exact h
theorem APost.cons {QA : List V → Hp → Prop} {r : AR} {d : D} {v : V} (h : APost A B E Hb H σ QA (r.cons d)) (hv : Rep A Hb d v) : APost A B E Hb H σ (fun vs H' => QA (v :: vs) H') r := by
  cases r with
  | ok ds c' => exact fun vs Hb' H' s1 t k => h (v :: vs) Hb' H' s1 t (RepL.cons (Rep.mono t.b _ _ hv) k)
  | exc x W => exact h
  | bad => exact h
theorem rdA_cons {QA : List V → Hp → Prop} (h : rdA A B E (evCons fa ga) σ H QA) : tCons (rdE A B E fa) (rdA A B E ga) σ H QA := by
  obtain ⟨Hb, c, s, q⟩ := h
  refine ⟨Hb, c, s, ?_⟩
  unfold evCons at q
  cases e : fa c with
  | ok k d c1 =>
    rw [e] at q
    have key : k ≠ .bo → APost A B E Hb H σ QA ((ga c1).cons d) → EPost A B E Hb H σ (fun x H1 => rdA A B E ga σ H1 fun xs H2 => QA (x :: xs) H2) (.ok k d c1) := fun hk q v Hb1 H1 s1 t1 k1 => by
      obtain ⟨Hb2, s2, e2, r2⟩ := k1.keep s1 hk
      exact ⟨Hb2, c1, s2, APost.cons (q.mono (t1.trans ⟨e2, .refl _⟩)) r2⟩
    cases k with
    | st => exact key (by intro z; cases z) q
    | fr => exact key (by intro z; cases z) q
    | bo => exact False.elim q
  | exc x W =>
    rw [e] at q
    exact q
  | bad =>
    rw [e] at q
    exact q
theorem da_nil : DA X A B E [] evNil := PA.imp pa_nil fun σ H Q ⟨Hb, c, s, q⟩ => q [] Hb H s .refl RepL.nil
theorem da_cons {e : Expr} {es : List Expr} (he : DE X A B E e fa) (hs : DA X A B E es ga) (hst : starEach (e :: es) X.env = (false, eval e X.env) :: starEach es X.env := by rfl) : DA X A B E (e :: es) (evCons fa ga) :=
  PA.imp (pa_cons he hs hst) fun _ _ _ h => rdA_cons h
theorem PK.imp {ks : List Keyword} {t t' : TA} (h : PK X ks t) (i : ∀ σ H Q, t' σ H Q → t σ H Q) : PK X ks t' := ⟨fun p pins s σ H Q I q => h.run p pins s σ H Q I (i σ H Q q)⟩
theorem dk_nil : DK X A B E [] evNil := PK.imp pk_nil fun σ H Q ⟨Hb, c, s, q⟩ => q [] Hb H s .refl RepL.nil
theorem dk_cons {e : Expr} {ks : List Keyword} {nm : Option Str} {kpos : Pos} (he : DE X A B E e fa) (hs : DK X A B E ks ga) : DK X A B E (⟨nm, e, kpos⟩ :: ks) (evCons fa ga) :=
  PK.imp (pk_cons he hs) fun _ _ _ h => rdA_cons h
/-- first the arguments -/
theorem ra_then {K : List D → Cfg → ER} {Q' : List V → Hp → Prop} (s : Sr A B Hb H σ c) (h : EPost A B E Hb H σ Q ((ga c).bind K))
    (n : ∀ ds c1 vs Hb1 H1, ga c = .ok ds c1 → Sr A B Hb1 H1 σ c1 → Stp A Hb H Hb1 H1 → RepL A Hb1 ds vs → EPost A B E Hb1 H1 σ Q (K ds c1) → Q' vs H1) : rdA A B E ga σ H Q' := by
  refine ⟨Hb, c, s, ?_⟩
  cases e : ga c with
  | ok ds c1 =>
    rw [e] at h
    exact fun vs Hb1 H1 s1 t k1 => n ds c1 vs Hb1 H1 e s1 t k1 (h.mono t)
  | exc x W =>
    rw [e] at h
    exact h
  | bad =>
    rw [e] at h
    exact h
/-! ### displays -/
def evTup (g : AF) : EF := fun c => (g c).bind fun ds c1 => if ds.length ≤ big then .ok .st (.tup ds) c1 else .bad
def evLst (g : AF) : EF := fun c => (g c).bind fun ds c1 => if ds.length ≤ big then .ok .fr (.lst ds) c1 else .bad
theorem de_tup {es : List Expr} {k pos} (h : DA X A B E es ga) : DE X A B E (.Tuple es k pos) (evTup ga) := PE.imp (pe_tup h) fun σ H Q ⟨Hb, c, s, q⟩ => by
  refine ra_then s q fun ds c1 vs Hb1 H1 _ s1 t1 k1 q1 => ?_
  split at q1
  · rename_i hl
    refine ⟨big_le (by rw [← k1.len]; exact hl), fun p hp => ?_⟩
    obtain ⟨s2, t2, r2⟩ := s1.newTup hp k1
    exact q1 _ _ _ s2 t2 r2
  · exact False.elim q1
theorem de_lst {es : List Expr} {pos} (h : DA X A B E es ga) : DE X A B E (.List es pos) (evLst ga) := PE.imp (pe_lst h) fun σ H Q ⟨Hb, c, s, q⟩ => by
  refine ra_then s q fun ds c1 vs Hb1 H1 _ s1 t1 k1 q1 => ?_
  split at q1
  · rename_i hl
    refine ⟨big_le (by rw [← k1.len]; exact hl), fun p hp => ?_⟩
    obtain ⟨s2, t2, r2⟩ := s1.newLst hp k1
    exact q1 _ _ _ s2 t2 r2
  · exact False.elim q1
/-! ### tests -/
def onB (d : D) (f : Bool → ER) : ER := match d with
  | .bl b => f b
  | _ => .bad
@[simp] theorem onB_bl {b f} : onB (.bl b) f = f b := rfl
def evIf (ft fa fb : EF) : EF := fun c => (ft c).bind fun _ d c1 => match d with | .bl b => (if b then fa c1 else fb c1) | _ => .bad
def evAnd (fa fb : EF) : EF := fun c => (fa c).bind fun _ d c1 => match d with | .bl b => (if b then fb c1 else .ok .st (.bl false) c1) | _ => .bad
def evOr (fa fb : EF) : EF := fun c => (fa c).bind fun _ d c1 => match d with | .bl b => (if b then .ok .st (.bl true) c1 else fb c1) | _ => .bad
def evNot (fa : EF) : EF := fun c => (fa c).bind fun _ d c1 => match d with | .bl b => .ok .st (.bl (!b)) c1 | _ => .bad
/-- a value by its truth -/
def truD : D → Option Bool
  | .non => some false
  | .bl b => some b
  | .int i => some (i != 0)
  | .tup ds => some (!ds.isEmpty)
  | .lst ds => some (!ds.isEmpty)
  | _ => none
def evTru (fa : EF) : EF := fun c => (fa c).bind fun _ d c1 => match truD d with | some b => .ok .st (.bl b) c1 | none => .bad
theorem de_if {t a b : Expr} {pos} (ht : DT X A B E t fa) (h1 : DE X A B E a fb) (h2 : DE X A B E b fc) : DE X A B E (.IfExp t a b pos) (evIf fa fb fc) := PE.imp (pe_ifExp ht h1 h2) fun σ H Q ⟨Hb, c, s, q⟩ => by
  refine rt_then (K := fun b c1 => if b then fb c1 else fc c1) s q fun b c1 Hb1 H1 s1 t1 q1 => ?_
  cases b with
  | true => exact ⟨Hb1, c1, s1, q1⟩
  | false => exact ⟨Hb1, c1, s1, q1⟩
theorem EPost.bl {r : ER} (h : EPost A B E Hb H σ Q r) : EPost A B E Hb H σ Q r := h
/-- a bool comes out of a test's value -/
theorem rd_thenB {K : Bool → Cfg → ER} {Q' : VK} (s : Sr A B Hb H σ c) (h : EPost A B E Hb H σ Q ((fa c).bind fun _ d c1 => match d with | .bl b => K b c1 | _ => .bad))
    (n : ∀ b c1 Hb1 H1, Sr A B Hb1 H1 σ c1 → Stp A Hb H Hb1 H1 → EPost A B E Hb1 H1 σ Q (K b c1) → Q' (.bl b) H1) : rdE A B E fa σ H Q' := by
  refine rd_then s h fun k d c1 v Hb1 H1 _ s1 t1 k1 q1 => ?_
  cases d with
  | bl b =>
    rw [k1.o.bl]
    exact n b c1 Hb1 H1 s1 t1 q1
  | _ => exact False.elim q1
theorem de_and {a b : Expr} {rest : List Expr} {pos} (ha : DE X A B E a fa) (hb : DE X A B E (.BoolOp .And (b :: rest) pos) fb) : DE X A B E (.BoolOp .And (a :: b :: rest) pos) (evAnd fa fb) := PE.imp (pe_and ha hb) fun σ H Q ⟨Hb, c, s, q⟩ => by
  refine rd_thenB (K := fun b c1 => if b then fb c1 else .ok .st (.bl false) c1) s q fun b c1 Hb1 H1 s1 t1 q1 => ⟨b, rfl, ?_⟩
  cases b with
  | true => exact ⟨Hb1, c1, s1, q1⟩
  | false => exact q1 _ Hb1 H1 s1 .refl rk_bl
theorem de_or {a b : Expr} {rest : List Expr} {pos} (ha : DE X A B E a fa) (hb : DE X A B E (.BoolOp .Or (b :: rest) pos) fb) : DE X A B E (.BoolOp .Or (a :: b :: rest) pos) (evOr fa fb) := PE.imp (pe_or ha hb) fun σ H Q ⟨Hb, c, s, q⟩ => by
  refine rd_thenB (K := fun b c1 => if b then .ok .st (.bl true) c1 else fb c1) s q fun b c1 Hb1 H1 s1 t1 q1 => ⟨b, rfl, ?_⟩
  cases b with
  | false => exact ⟨Hb1, c1, s1, q1⟩
  | true => exact q1 _ Hb1 H1 s1 .refl rk_bl
theorem de_one {op} {a : Expr} {pos} (ha : DE X A B E a fa) : DE X A B E (.BoolOp op [a] pos) fa := pe_one ha
theorem de_not {a : Expr} {pos} (ha : DE X A B E a fa) : DE X A B E (.UnaryOp .Not a pos) (evNot fa) := PE.imp (pe_not ha) fun σ H Q ⟨Hb, c, s, q⟩ => by
  refine rd_thenB (K := fun b c1 => .ok .st (.bl (!b)) c1) s q fun b c1 Hb1 H1 s1 t1 q1 => ⟨b, rfl, q1 _ Hb1 H1 s1 .refl rk_bl⟩
def DW (X : Cx) (A : Am) (B : Bs) (E : XK) (e : Expr) (f : EF) : Prop := PW X e (rdT A B E f)
theorem PW.imp {e : Expr} {t t' : TT} (h : PW X e t) (i : ∀ σ H Q, t' σ H Q → t σ H Q) : PW X e t' := ⟨fun w pins s σ H Q I q => h.run w pins s σ H Q I (i σ H Q q)⟩
theorem dt_w {e : Expr} (h : DW X A B E e fa) : DT X A B E e fa := PW.pt h
theorem dw_and {a b : Expr} {rest : List Expr} {pos} (ha : DT X A B E a fa) (hb : DW X A B E (.BoolOp .And (b :: rest) pos) fb) : DW X A B E (.BoolOp .And (a :: b :: rest) pos) (evAnd fa fb) := PW.imp (pw_and ha hb) fun σ H Q ⟨Hb, c, s, q⟩ => by
  refine rt_thenT (K := fun b c1 => if b then fb c1 else .ok .st (.bl false) c1) s q fun b c1 Hb1 H1 s1 t1 q1 => ?_
  cases b with
  | true => exact ⟨Hb1, c1, s1, q1⟩
  | false =>
    obtain ⟨b, e, g⟩ := q1
    cases e
    exact g Hb1 H1 s1 .refl
theorem dw_or {a b : Expr} {rest : List Expr} {pos} (ha : DT X A B E a fa) (hb : DW X A B E (.BoolOp .Or (b :: rest) pos) fb) : DW X A B E (.BoolOp .Or (a :: b :: rest) pos) (evOr fa fb) := PW.imp (pw_or ha hb) fun σ H Q ⟨Hb, c, s, q⟩ => by
  refine rt_thenT (K := fun b c1 => if b then .ok .st (.bl true) c1 else fb c1) s q fun b c1 Hb1 H1 s1 t1 q1 => ?_
  cases b with
  | false => exact ⟨Hb1, c1, s1, q1⟩
  | true =>
    obtain ⟨b, e, g⟩ := q1
    cases e
    exact g Hb1 H1 s1 .refl
theorem dw_and1 {a : Expr} {pos} (ha : DT X A B E a fa) : DW X A B E (.BoolOp .And [a] pos) fa := pw_and1 ha
theorem dw_or1 {a : Expr} {pos} (ha : DT X A B E a fa) : DW X A B E (.BoolOp .Or [a] pos) fa := pw_or1 ha
theorem dt_not {a : Expr} {pos} (ha : DT X A B E a fa) : DT X A B E (.UnaryOp .Not a pos) (evNot fa) := PT.imp (pt_not ha) fun σ H Q ⟨Hb, c, s, q⟩ => by
  refine rt_thenT (K := fun b c1 => .ok .st (.bl (!b)) c1) s q fun b c1 Hb1 H1 s1 t1 q1 => ?_
  obtain ⟨b', e, g⟩ := q1
  cases e
  exact g Hb1 H1 s1 .refl
theorem tru_of {d : D} {v : V} {b : Bool} (f : Same Hb H) (h : RepO A Hb H d v) (e : truD d = some b) : TruV A.K v H b := by
  cases d with
  | non => cases e; rw [h.non]; rfl
  | bl b => cases e; rw [h.bl]; rfl
  | int i => cases e; rw [h.int]; rfl
  | str i => cases e
  | tup ds =>
    cases e
    obtain ⟨a, xs, rfl, h1, h2⟩ := h.tup
    have hl := h2.len
    refine .inr (.inl ⟨xs, SqT.of (f _ _ h1), ?_⟩)
    cases ds <;> cases xs <;> simp_all
  | lst ds =>
    cases e
    obtain ⟨a, xs, rfl, h1, h2⟩ := h.lst f
    have hl := h2.len
    refine .inl ⟨xs, SqL.of h1, ?_⟩
    cases ds <;> cases xs <;> simp_all
  | obj C ns ds => cases e
  | deal => cases e
theorem dt_tru {a : Expr} (hK : X.K = A.K) (ha : DE X A B E a fa) (he : ∀ whole, isTrue a X.env whole = (do let v ← whole; standAt a.pos; holding [v] (truthy v))) : DT X A B E a (evTru fa) := PT.imp (pt_truth ha he) fun σ H Q ⟨Hb, c, s, q⟩ => by
  refine rd_thenT (K := fun _ d c1 => match truD d with | some b => .ok .st (.bl b) c1 | none => .bad) s q fun k d c1 v Hb1 H1 _ s1 t1 k1 q1 => ?_
  cases e : truD d with
  | none =>
    rw [e] at q1
    exact False.elim q1
  | some b =>
    rw [e] at q1
    obtain ⟨b', e', g⟩ := q1
    cases e'
    exact ⟨b, by rw [hK]; exact tru_of s1.same k1.o e, g Hb1 H1 s1 .refl⟩
/-! ### a chain of two comparisons -/
def ev3 (g g' : D → D → Option (Kd × D)) (fa fb fc : EF) : EF := fun c => (fa c).bind fun _ da c1 => (fb c1).bind fun _ db c2 => match g da db with
  | some (_, .bl true) => (fc c2).bind fun _ dc c3 => ofO c3 (g' db dc)
  | some (_, .bl false) => .ok .st (.bl false) c2
  | _ => .bad
theorem rd_chain {r r' : R2} {g g' : D → D → Option (Kd × D)} (h1 : OpS A r g) (h2 : OpS A r' g') (s : Sr A B Hb H σ c) (q : EPost A B E Hb H σ Q (ev3 g g' fa fb fc c)) : tChain r r' (rdE A B E fa) (rdE A B E fb) (rdE A B E fc) σ H Q := by
  refine rd_then s q fun k d c1 v Hb1 H1 _ s1 t1 k1 q1 => ?_
  refine rd_then s1 q1 fun k' d' c2 v' Hb2 H2 _ s2 t2 k2 q2 => ?_
  have sc : ∀ {k : Kd} {t : Bool} {v : V} {Hb' H' : Hp}, RepK A B Hb' H' σ c2 k (.bl t) v → v = .bl t := fun h => h.o.bl
  split at q2
  · rename_i kk eg
    refine h1 B Hb2 H2 σ c2 d d' v v' kk (.bl true) _ s2 ((k1.o).mono t2) k2.o eg fun z Hb3 H3 s3 t3 k3 => ⟨true, sc k3, ?_⟩
    rw [if_pos rfl]
    refine rd_then s3 (q2.mono t3) fun k' dc c4 w' Hb4 H4 _ s4 t4 k4 q4 => ?_
    cases eg2 : g' d' dc with
    | none =>
      rw [eg2] at q4
      exact False.elim q4
    | some p =>
      obtain ⟨kk2, dd⟩ := p
      rw [eg2] at q4
      exact h2 B Hb4 H4 σ c4 d' dc v' w' kk2 dd Q s4 ((k2.o).mono (t3.trans t4)) k4.o eg2 q4
  · rename_i kk eg
    refine h1 B Hb2 H2 σ c2 d d' v v' kk (.bl false) _ s2 ((k1.o).mono t2) k2.o eg fun z Hb3 H3 s3 t3 k3 => ⟨false, sc k3, ?_⟩
    rw [if_neg Bool.false_ne_true]
    exact q2 _ Hb3 H3 s3 t3 rk_bl
  · exact False.elim q2
theorem de_chain {op op' : CmpOp} {g g' : D → D → Option (Kd × D)} {a b d : Expr} {pos} (ho : OpD X A (compareOp op) g) (ho' : OpD X A (compareOp op') g') (ha : DE X A B E a fa) (hb : DE X A B E b fb) (hc : DE X A B E d fc)
    (hm : lastMarks [op, op'] [b, d] = false := by with_unfolding_all rfl) : DE X A B E (.Compare a [op, op'] [b, d] pos) (ev3 g g' fa fb fc) := by
  obtain ⟨r, h1, h2⟩ := ho
  obtain ⟨r', h1', h2'⟩ := ho'
  exact PE.imp (pe_chain h1 h1' ha hb hc hm) fun σ H Q ⟨Hb, c, s, q⟩ => rd_chain h2 h2' s q
theorem dt_chain {op op' : CmpOp} {g g' : D → D → Option (Kd × D)} {a b d : Expr} {pos} (ho : OpD X A (compareOp op) g) (ho' : OpD X A (compareOp op') g') (ha : DE X A B E a fa) (hb : DE X A B E b fb) (hc : DE X A B E d fc)
    (hm : lastMarks [op, op'] [b, d] = false := by with_unfolding_all rfl) : DT X A B E (.Compare a [op, op'] [b, d] pos) (ev3 g g' fa fb fc) := by
  obtain ⟨r, h1, h2⟩ := ho
  obtain ⟨r', h1', h2'⟩ := ho'
  exact dt_of (PT.imp (pt_chain h1 h1' ha hb hc hm) fun σ H Q ⟨Hb, c, s, q⟩ => rd_chain h2 h2' s q)
/-! ### unary minus -/
def evNeg (fa : EF) : EF := fun c => (fa c).bind fun _ d c1 => match d with | .int i => .ok .st (.int (-i)) c1 | _ => .bad
theorem de_neg {a : Expr} {pos} (ha : DE X A B E a fa) : DE X A B E (.UnaryOp .USub a pos) (evNeg fa) := PE.imp (pe_un un_neg ha) fun σ H Q ⟨Hb, c, s, q⟩ => by
  refine rd_then s q fun k d c1 v Hb1 H1 _ s1 t1 k1 q1 => ?_
  cases d with
  | int i => exact ⟨i, k1.o.int, q1 _ Hb1 H1 s1 .refl rk_int⟩
  | _ => exact False.elim q1
/-! ### items, slices -/
def gIxL : D → D → Option (Kd × D)
  | .lst a, .int i => (atI a i).map fun d => (.st, d)
  | _, _ => none
def gIxT : D → D → Option (Kd × D)
  | .tup a, .int i => (atI a i).map fun d => (.st, d)
  | _, _ => none
def IxD (X : Cx) (A : Am) (g : D → D → Option (Kd × D)) : Prop := ∃ r, IxR X r ∧ OpS A r g
theorem RepL.atI {ds : List D} {xs : List V} {i : Int} {d : D} (h : RepL A Hb ds xs) (e : atI ds i = some d) : ∃ x, L2.atI xs i = some x ∧ Rep A Hb d x := by
  unfold L2.atI at e ⊢
  rw [← h.len]
  cases q : ixN ds.length i with
  | none => rw [q] at e; cases e
  | some j =>
    rw [q] at e
    exact h.get e
theorem id_list (hK : X.K = A.K) : IxD X A gIxL := by
  refine ⟨_, ix_list, fun B Hb H σ c da db x y k d Q s hx hy e q => ?_⟩
  unfold gIxL at e
  split at e
  · rename_i a i
    cases ea : atI a i with
    | none => rw [ea] at e; cases e
    | some d' =>
      rw [ea] at e
      cases e
      obtain ⟨p, xs, rfl, h1, h2⟩ := hx.lst s.same
      obtain ⟨z, h3, h4⟩ := h2.atI ea
      exact ⟨p, xs, i, z, rfl, hy.int, SqL.of h1, h3, q z Hb H s .refl h4⟩
  · cases e
theorem id_tup (hK : X.K = A.K) : IxD X A gIxT := by
  refine ⟨_, ix_tup, fun B Hb H σ c da db x y k d Q s hx hy e q => ?_⟩
  unfold gIxT at e
  split at e
  · rename_i a i
    cases ea : atI a i with
    | none => rw [ea] at e; cases e
    | some d' =>
      rw [ea] at e
      cases e
      obtain ⟨p, xs, rfl, h1, h2⟩ := hx.tup
      obtain ⟨z, h3, h4⟩ := h2.atI ea
      exact ⟨p, xs, i, z, rfl, hy.int, SqT.of (s.same _ _ h1), h3, q z Hb H s .refl h4⟩
  · cases e
def gIx : D → D → Option (Kd × D)
  | .lst a, .int i => (atI a i).map fun d => (.st, d)
  | .tup a, .int i => (atI a i).map fun d => (.st, d)
  | _, _ => none
theorem id_ix (hK : X.K = A.K) : IxD X A gIx := by
  obtain ⟨r, h1, h2⟩ := id_list (X := X) hK
  obtain ⟨r', h1', h2'⟩ := id_tup (X := X) hK
  refine ⟨_, L2.IxR.or h1 h1', fun B Hb H σ c da db x y k d Q s hx hy e q => ?_⟩
  unfold gIx at e
  split at e
  · exact .inl (h2 B Hb H σ c _ _ x y k d Q s hx hy e q)
  · exact .inr (h2' B Hb H σ c _ _ x y k d Q s hx hy e q)
  · cases e
theorem de_ix {a b : Expr} {pos} (hK : X.K = A.K) (ha : DE X A B E a fa) (hb : DE X A B E b fb) (hp : PlainIx b := by intro _ _; rfl) : DE X A B E (.Subscript a b pos) (ev2 gIx fa fb) := by
  obtain ⟨r, h1, h2⟩ := id_ix (X := X) hK
  exact de_tOp (ta := rdE A B E fa) (tb := rdE A B E fb) h2 (pe_ix h1 ha hb hp)
end
end DL
namespace DL
open PySem PySem.Spec PyProof.Rows L2

/-! ### slices -/
inductive OR where
  | ok (o : Option Int) (c : Cfg) | exc (x : XD) (W : Wd) | bad
abbrev OF := Cfg → OR
def OR.bind (r : OR) (f : Option Int → Cfg → ER) : ER := match r with
  | .ok o c => f o c
  | .exc x W => .exc x W
  | .bad => .bad
@[simp] theorem obind_ok {d c} {f : Option Int → Cfg → ER} : (OR.ok d c).bind f = f d c := rfl
@[simp] theorem obind_exc {x W} {f : Option Int → Cfg → ER} : (OR.exc x W).bind f = .exc x W := rfl
@[simp] theorem obind_bad {f : Option Int → Cfg → ER} : OR.bad.bind f = .bad := rfl
def OPost (A : Am) (B : Bs) (E : XK) (Hb H : Hp) (σ : L2.St) (Q : Option Int → Hp → Prop) : OR → Prop
  | .ok o c' => ∀ (Hb' H' : Hp), Sr A B Hb' H' σ c' → Stp A Hb H Hb' H' → Q o H'
  | .exc x W' => ExcW A B E x W'
  | .bad => False
def rdO (A : Am) (B : Bs) (E : XK) (f : OF) : TO := fun σ H Q => ∃ (Hb : Hp) (c : Cfg), Sr A B Hb H σ c ∧ OPost A B E Hb H σ Q (f c)
def DO (X : Cx) (A : Am) (B : Bs) (E : XK) (e : Option Expr) (f : OF) : Prop := PO X e (rdO A B E f)
def evON : OF := fun c => .ok none c
def evOS (fa : EF) : OF := fun c => match fa c with
  | .ok _ (.int i) c1 => .ok (some i) c1
  | .ok _ _ _ => .bad
  | .exc x W => .exc x W
  | .bad => .bad
def cutD (ds : List D) (lo hi : Option Int) : List D := (ds.drop (HT.sIx ds.length 0 lo)).take (HT.sIx ds.length ds.length hi - HT.sIx ds.length 0 lo)
def gSl (d : D) (lo hi : Option Int) : Option (Kd × D) := match d with
  | .lst ds => some (.fr, .lst (cutD ds lo hi))
  | .tup ds => some (.st, .tup (cutD ds lo hi))
  | _ => none
def evSl (fa : EF) (fl fh : OF) : EF := fun c => (fa c).bind fun _ d c1 => (fl c1).bind fun l c2 => (fh c2).bind fun h c3 => ofO c3 (gSl d l h)
section
variable {X : Cx} {A : Am} {B : Bs} {E : XK} {Hb H Hb1 H1 : Hp} {σ : List (Option V)} {c c1 : Cfg} {Q : VK} {fa fb fc : EF} {ga gb : AF} {fl fh : OF}
theorem PO.imp {e : Option Expr} {t t' : TO} (h : PO X e t) (i : ∀ σ H Q, t' σ H Q → t σ H Q) : PO X e t' := ⟨fun pins s σ H Q I q => h.run pins s σ H Q I (i σ H Q q)⟩
theorem do_none : DO X A B E none evON := PO.imp po_none fun σ H Q ⟨Hb, c, s, q⟩ => q Hb H s .refl
theorem do_some {e : Expr} (h : DE X A B E e fa) : DO X A B E (some e) (evOS fa) := PO.imp (po_some h) fun σ H Q ⟨Hb, c, s, q⟩ => by
  refine ⟨Hb, c, s, ?_⟩
  unfold evOS at q
  cases ef : fa c with
  | ok k d c1 =>
    rw [ef] at q
    cases d with
    | int i => exact fun v Hb' H' s1 t1 k1 => ⟨i, k1.o.int, q Hb' H' s1 t1⟩
    | _ => exact False.elim q
  | exc x W => rw [ef] at q; exact q
  | bad => rw [ef] at q; exact q
theorem ro_then {K : Option Int → Cfg → ER} {Q' : Option Int → Hp → Prop} (s : Sr A B Hb H σ c) (h : EPost A B E Hb H σ Q ((fl c).bind K))
    (n : ∀ o c1 Hb1 H1, Sr A B Hb1 H1 σ c1 → Stp A Hb H Hb1 H1 → EPost A B E Hb1 H1 σ Q (K o c1) → Q' o H1) : rdO A B E fl σ H Q' := by
  refine ⟨Hb, c, s, ?_⟩
  cases e : fl c with
  | ok o c1 =>
    rw [e] at h
    exact fun Hb1 H1 s1 t => n o c1 Hb1 H1 s1 t (h.mono t)
  | exc x W => rw [e] at h; exact h
  | bad => rw [e] at h; exact h
theorem RepL.cut {ds : List D} {xs : List V} (h : RepL A Hb ds xs) (lo hi : Option Int) : RepL A Hb (cutD ds lo hi) (cutV xs lo hi) := by
  unfold cutD cutV
  rw [h.len]
  exact RepL.take _ (RepL.drop _ h)
theorem cut_all {xs : List V} {lo hi : Option Int} (h : HT.sIx xs.length 0 lo = 0 ∧ HT.sIx xs.length xs.length hi = xs.length) : cutV xs lo hi = xs := by
  unfold cutV
  rw [h.1, h.2, List.drop_zero, Nat.sub_zero, List.take_length]
theorem de_sl {e : Expr} {lo hi : Option Expr} {p2 pos} (hK : X.K = A.K) (he : DE X A B E e fa) (hl : DO X A B E lo fl) (hh : DO X A B E hi fh) : DE X A B E (.Subscript e (.Slice lo hi none p2) pos) (evSl fa fl fh) :=
  PE.imp (pe_slice (L2.SlR.or sl_list sl_tupA) he hl hh) fun σ H Q ⟨Hb, c, s, q⟩ => by
    refine rd_then s q fun k d c1 v Hb1 H1 _ s1 t1 k1 q1 => ?_
    refine ro_then s1 q1 fun l c2 Hb2 H2 s2 t2 q2 => ?_
    refine ro_then s2 q2 fun u c3 Hb3 H3 s3 t3 q3 => ?_
    have ko := k1.o.mono (t2.trans t3)
    cases d with
    | lst ds =>
      obtain ⟨a, xs, rfl, h1, h2⟩ := ko.lst s3.same
      refine .inl ⟨a, xs, rfl, SqL.of h1, fun p hp => ?_⟩
      obtain ⟨s4, t4, r4⟩ := s3.newLst hp (h2.cut l u)
      exact q3 _ _ _ s4 t4 r4
    | tup ds =>
      obtain ⟨a, xs, rfl, h1, h2⟩ := ko.tup
      refine .inr ⟨a, xs, rfl, SqT.of (s3.same _ _ h1), fun hz => ?_, fun hz p hp => ?_⟩
      · have e1 := cut_all hz
        have r := h2.cut l u
        rw [e1] at r
        exact q3 _ Hb3 H3 s3 .refl (rep_tup.mpr ⟨a, xs, rfl, h1, r⟩)
      · obtain ⟨s4, t4, r4⟩ := s3.newTup hp (h2.cut l u)
        exact q3 _ _ _ s4 t4 r4
    | _ => exact False.elim q3
/-! ### fields of an object -/
/-- what the classes of the text must have for their fields to be read -/
structure FldOk (K : PySem.W.Frag) (C : Addr) (f : Str) : Prop where
  cl : Cls K C
  na : NoAttr K C f
def gFld (T : Addr → Str → Bool) (f : Str) : D → Option D
  | .obj C ns ds => if T C f then (ns.zip ds).lookup f else none
  | _ => none
def evFld (T : Addr → Str → Bool) (f : Str) (fa : EF) : EF := fun c => (fa c).bind fun _ d c1 => ofO c1 ((gFld T f d).map fun d => (.st, d))
theorem lookup_rep {f : Str} {d : D} : ∀ {ds : List D} {fs : List (Str × V)}, RepL A Hb ds (fs.map (·.2)) → ((fs.map (·.1)).zip ds).lookup f = some d → ∃ v, fs.lookup f = some v ∧ Rep A Hb d v
  | ds, [], h, e => by simp at e
  | [], (g, x) :: fs, h, e => by simp at e
  | d0 :: ds, (g, x) :: fs, h, e => by
    obtain ⟨y, r, h1, h2, h3⟩ := repL_cons.mp h
    rw [List.map_cons] at h1
    cases h1
    rw [List.map_cons, List.zip_cons_cons, List.lookup_cons] at e
    rw [List.lookup_cons]
    cases hg : f == g with
    | true =>
      rw [hg] at e
      cases e
      exact ⟨_, rfl, h2⟩
    | false =>
      rw [hg] at e
      exact lookup_rep h3 e
theorem de_fld {T : Addr → Str → Bool} {f : Str} {e : Expr} {pos} (hK : X.K = A.K) (hT : ∀ C, T C f = true → FldOk A.K C f) (he : DE X A B E e fa) (hb : attributeBase e f X.env (eval e X.env) = eval e X.env := by rfl) : DE X A B E (.Attribute e f pos) (evFld T f fa) :=
  PE.imp (pe_fld he hb) fun σ H Q ⟨Hb, c, s, q⟩ => by
    refine rd_then s q fun k d c1 v Hb1 H1 _ s1 t1 k1 q1 => ?_
    cases eg : gFld T f d with
    | none => rw [eg] at q1; exact False.elim q1
    | some d' =>
      rw [eg] at q1
      cases d with
      | obj C ns ds =>
        replace eg : (if T C f = true then (ns.zip ds).lookup f else none) = some d' := eg
        by_cases hc : T C f = true
        · rw [if_pos hc] at eg
          rcases k1.o with h | ⟨a, o, _, _, z, _⟩
          · unfold Rep at h
            obtain ⟨a, dx, fs, rfl, h2, h3, h4⟩ := h
            subst h3
            obtain ⟨w, h5, h6⟩ := lookup_rep h4 eg
            have ok := hT C hc
            rw [hK]
            exact ⟨a, C, dx, fs, w, rfl, s1.same _ _ h2, ok.cl, ok.na, h5, q1 _ Hb1 H1 s1 .refl h6⟩
          · exact z.elim
        · rw [if_neg hc] at eg; cases eg
      | _ => cases eg
/-! ### built-in functions -/
def CaS1 (A : Am) (r : List V → Hp → VK → Prop) (g : D → Option (Kd × D)) : Prop := ∀ (B : Bs) (Hb H : Hp) (σ : List (Option V)) (c : Cfg) (da : D) (x : V) (k : Kd) (d : D) (Q : VK), Sr A B Hb H σ c → RepO A Hb H da x → g da = some (k, d) →
  (∀ v Hb' H', Sr A B Hb' H' σ c → Stp A Hb H Hb' H' → RepK A B Hb' H' σ c k d v → Q v H') → r [x] H Q
def CaD1 (X : Cx) (A : Am) (f : Value) (g : D → Option (Kd × D)) : Prop := ∃ r, CallR X f r ∧ CaS1 A r g
def CaS2 (A : Am) (r : List V → Hp → VK → Prop) (g : D → D → Option (Kd × D)) : Prop := ∀ (B : Bs) (Hb H : Hp) (σ : List (Option V)) (c : Cfg) (da db : D) (x y : V) (k : Kd) (d : D) (Q : VK), Sr A B Hb H σ c → RepO A Hb H da x → RepO A Hb H db y → g da db = some (k, d) →
  (∀ v Hb' H', Sr A B Hb' H' σ c → Stp A Hb H Hb' H' → RepK A B Hb' H' σ c k d v → Q v H') → r [x, y] H Q
def CaD2 (X : Cx) (A : Am) (f : Value) (g : D → D → Option (Kd × D)) : Prop := ∃ r, CallR X f r ∧ CaS2 A r g
def ev1 (g : D → Option (Kd × D)) (fa : EF) : EF := fun c => (fa c).bind fun _ da c1 => ofO c1 (g da)
theorem CaD1.or {f : Value} {g g' : D → Option (Kd × D)} (h : CaD1 X A f g) (h' : CaD1 X A f g') : CaD1 X A f (fun a => (g a).orElse fun _ => g' a) := by
  obtain ⟨r, h1, h2⟩ := h
  obtain ⟨r', h1', h2'⟩ := h'
  refine ⟨_, L2.CallR.or h1 h1', fun B Hb H σ c da x k d Q s hx e q => ?_⟩
  dsimp only at e
  cases eg : g da with
  | some p =>
    rw [eg] at e
    cases e
    exact .inl (h2 B Hb H σ c da x k d Q s hx eg q)
  | none =>
    rw [eg] at e
    exact .inr (h2' B Hb H σ c da x k d Q s hx e q)
theorem rd_ca1 {r : List V → Hp → VK → Prop} {g : D → Option (Kd × D)} (h : CaS1 A r g) (s : Sr A B Hb H σ c) (q : EPost A B E Hb H σ Q (ev1 g fa c)) : tCB r (tCons (rdE A B E fa) tNil) σ H Q := by
  refine rd_then s q fun k d c1 v Hb1 H1 _ s1 t1 k1 q1 => ?_
  cases eg : g d with
  | none => rw [eg] at q1; exact False.elim q1
  | some p =>
    obtain ⟨kk, dd⟩ := p
    rw [eg] at q1
    exact h B Hb1 H1 σ c1 d v kk dd Q s1 k1.o eg q1
theorem rd_ca2 {r : List V → Hp → VK → Prop} {g : D → D → Option (Kd × D)} (h : CaS2 A r g) (s : Sr A B Hb H σ c) (q : EPost A B E Hb H σ Q (ev2 g fa fb c)) : tCB r (tCons (rdE A B E fa) (tCons (rdE A B E fb) tNil)) σ H Q := by
  refine rd_then s q fun k d c1 v Hb1 H1 _ s1 t1 k1 q1 => ?_
  refine rd_then s1 q1 fun k' d' c2 v' Hb2 H2 _ s2 t2 k2 q2 => ?_
  cases eg : g d d' with
  | none => rw [eg] at q2; exact False.elim q2
  | some p =>
    obtain ⟨kk, dd⟩ := p
    rw [eg] at q2
    exact h B Hb2 H2 σ c2 d d' v v' kk dd Q s2 ((k1.o).mono t2) k2.o eg q2
theorem de_b1 {x : Str} {p pos : Pos} {e : Expr} {id : String} {g : D → Option (Kd × D)} (hc : CaD1 X A (.builtin id) g) (hg : Gl X x) (hm : X.mg x = none) (hv : bootBuiltins x = some (.builtin id)) (ha : DE X A B E e fa) (hn : x ≠ "__name__" := by decide) (hdb : (x == ("__debug__" : Str)) = false := by decide)
    (he : starEach [e] X.env = (false, eval e X.env) :: starEach [] X.env := by rfl) (hpl : (backTo pos (starEach [] X.env)).any (·.1) = false := by rfl) : DE X A B E (.Call (.Name x p) [e] [] pos) (ev1 g fa) := by
  obtain ⟨r, h1, h2⟩ := hc
  exact PE.imp (pe_callB h1 hg hm hv (pa_cons ha pa_nil he) hn hdb he hpl) fun σ H Q ⟨Hb, c, s, q⟩ => rd_ca1 h2 s q
theorem de_t1 {x : Str} {p pos : Pos} {e : Expr} {T : String} {g : D → Option (Kd × D)} (hc : CaD1 X A (.type T) g) (hg : Gl X x) (hm : X.mg x = none) (hv : bootBuiltins x = some (.type T)) (ha : DE X A B E e fa) (hn : x ≠ "__name__" := by decide) (hdb : (x == ("__debug__" : Str)) = false := by decide)
    (he : starEach [e] X.env = (false, eval e X.env) :: starEach [] X.env := by rfl) (hpl : (backTo pos (starEach [] X.env)).any (·.1) = false := by rfl) : DE X A B E (.Call (.Name x p) [e] [] pos) (ev1 g fa) := by
  obtain ⟨r, h1, h2⟩ := hc
  exact PE.imp (pe_callTy h1 hg hm hv (pa_cons ha pa_nil he) hn hdb he hpl) fun σ H Q ⟨Hb, c, s, q⟩ => rd_ca1 h2 s q
theorem de_b2 {x : Str} {p pos : Pos} {e e' : Expr} {id : String} {g : D → D → Option (Kd × D)} (hc : CaD2 X A (.builtin id) g) (hg : Gl X x) (hm : X.mg x = none) (hv : bootBuiltins x = some (.builtin id)) (ha : DE X A B E e fa) (hb : DE X A B E e' fb) (hn : x ≠ "__name__" := by decide) (hdb : (x == ("__debug__" : Str)) = false := by decide)
    (he : starEach [e, e'] X.env = (false, eval e X.env) :: starEach [e'] X.env := by rfl) (he' : starEach [e'] X.env = (false, eval e' X.env) :: starEach [] X.env := by rfl) (hpl : (backTo pos (starEach [e'] X.env)).any (·.1) = false := by rfl) : DE X A B E (.Call (.Name x p) [e, e'] [] pos) (ev2 g fa fb) := by
  obtain ⟨r, h1, h2⟩ := hc
  exact PE.imp (pe_callB h1 hg hm hv (pa_cons ha (pa_cons hb pa_nil he') he) hn hdb he hpl) fun σ H Q ⟨Hb, c, s, q⟩ => rd_ca2 h2 s q
/-- len -/
def gLen : D → Option (Kd × D)
  | .lst ds => some (.st, .int ds.length)
  | .tup ds => some (.st, .int ds.length)
  | _ => none
theorem cd_len : CaD1 X A (.builtin "len") gLen := by
  refine ⟨_, call_len_seq, fun B Hb H σ c da x k d Q s hx e q => ?_⟩
  cases da with
  | lst ds =>
    cases e
    obtain ⟨a, xs, rfl, h1, h2⟩ := hx.lst s.same
    refine ⟨a, xs, rfl, .inl (SqL.of h1), ?_⟩
    rw [← h2.len]
    exact q _ Hb H s .refl rk_int
  | tup ds =>
    cases e
    obtain ⟨a, xs, rfl, h1, h2⟩ := hx.tup
    refine ⟨a, xs, rfl, .inr (SqT.of (s.same _ _ h1)), ?_⟩
    rw [← h2.len]
    exact q _ Hb H s .refl rk_int
  | _ => cases e
/-- list(x), tuple(x) of a list or a tuple -/
def gList : D → Option (Kd × D)
  | .lst ds => some (.fr, .lst ds)
  | .tup ds => some (.fr, .lst ds)
  | _ => none
def gTuple : D → Option (Kd × D)
  | .lst ds => some (.st, .tup ds)
  | .tup ds => some (.st, .tup ds)
  | _ => none
theorem cd_list : CaD1 X A (.type "list") gList := by
  refine ⟨_, call_list_of, fun B Hb H σ c da x k d Q s hx e q => ?_⟩
  cases da with
  | lst ds =>
    cases e
    obtain ⟨a, xs, rfl, h1, h2⟩ := hx.lst s.same
    refine ⟨a, xs, rfl, .inl (SqL.of h1), fun l hl => ?_⟩
    obtain ⟨s4, t4, r4⟩ := s.newLst hl h2
    exact q _ _ _ s4 t4 r4
  | tup ds =>
    cases e
    obtain ⟨a, xs, rfl, h1, h2⟩ := hx.tup
    refine ⟨a, xs, rfl, .inr (SqT.of (s.same _ _ h1)), fun l hl => ?_⟩
    obtain ⟨s4, t4, r4⟩ := s.newLst hl h2
    exact q _ _ _ s4 t4 r4
  | _ => cases e
theorem cd_tuple : CaD1 X A (.type "tuple") gTuple := by
  refine ⟨_, call_tuple_of, fun B Hb H σ c da x k d Q s hx e q => ?_⟩
  cases da with
  | lst ds =>
    cases e
    obtain ⟨a, xs, rfl, h1, h2⟩ := hx.lst s.same
    refine ⟨a, xs, rfl, .inl ⟨SqL.of h1, fun l hl => ?_⟩⟩
    obtain ⟨s4, t4, r4⟩ := s.newTup hl h2
    exact q _ _ _ s4 t4 r4
  | tup ds =>
    cases e
    obtain ⟨a, xs, rfl, h1, h2⟩ := hx.tup
    exact ⟨a, xs, rfl, .inr ⟨SqT.of (s.same _ _ h1), q _ Hb H s .refl (rep_tup.mpr ⟨a, xs, rfl, h1, h2⟩)⟩⟩
  | _ => cases e
/-- int(n), abs(n) -/
def gInt : D → Option (Kd × D)
  | .int i => some (.st, .int i)
  | .bl b => some (.st, .int (if b then 1 else 0))
  | _ => none
def gAbs : D → Option (Kd × D)
  | .int i => some (.st, .int (if i < 0 then -i else i))
  | _ => none
theorem cd_int : CaD1 X A (.type "int") gInt := by
  refine ⟨_, call_int1, fun B Hb H σ c da x k d Q s hx e q => ?_⟩
  cases da with
  | int i => cases e; exact .inl ⟨i, by rw [hx.int], q _ Hb H s .refl rk_int⟩
  | bl i => cases e; exact .inr ⟨i, by rw [hx.bl], q _ Hb H s .refl rk_int⟩
  | _ => cases e
theorem cd_abs : CaD1 X A (.builtin "abs") gAbs := by
  refine ⟨_, call_abs, fun B Hb H σ c da x k d Q s hx e q => ?_⟩
  cases da with
  | int i => cases e; exact ⟨i, by rw [hx.int], q _ Hb H s .refl rk_int⟩
  | _ => cases e
def gMax2 := gI fun i j => some (.int (if j > i then j else i))
def gMin2 := gI fun i j => some (.int (if j < i then j else i))
theorem cd_max2 (hc : X.calm = true) : CaD2 X A (.builtin "max") gMax2 := by
  refine ⟨_, call_max2 hc, fun B Hb H σ c da db x y k d Q s hx hy e q => ?_⟩
  obtain ⟨i, j, rfl, rfl, e1, rfl⟩ := gI_inv e
  cases e1
  exact ⟨i, j, by rw [hx.int, hy.int], q _ Hb H s .refl rk_int⟩
theorem cd_min2 (hc : X.calm = true) : CaD2 X A (.builtin "min") gMin2 := by
  refine ⟨_, call_min2 hc, fun B Hb H σ c da db x y k d Q s hx hy e q => ?_⟩
  obtain ⟨i, j, rfl, rfl, e1, rfl⟩ := gI_inv e
  cases e1
  exact ⟨i, j, by rw [hx.int, hy.int], q _ Hb H s .refl rk_int⟩
/-! lists of ints, of bools -/
def asI : List D → Option (List Int)
  | [] => some []
  | .int i :: ds => (asI ds).map (i :: ·)
  | _ :: _ => none
def asB : List D → Option (List Bool)
  | [] => some []
  | .bl i :: ds => (asB ds).map (i :: ·)
  | _ :: _ => none
theorem asI_eq : ∀ {ds : List D} {ns : List Int}, asI ds = some ns → ds = ns.map D.int
  | [], ns, h => by cases h; rfl
  | d :: ds, ns, h => by
    cases d with
    | int i =>
      unfold asI at h
      cases q : asI ds with
      | none => rw [q] at h; cases h
      | some ms =>
        rw [q] at h
        cases h
        rw [asI_eq q]
        rfl
    | _ => cases h
theorem asB_eq : ∀ {ds : List D} {ns : List Bool}, asB ds = some ns → ds = ns.map D.bl
  | [], ns, h => by cases h; rfl
  | d :: ds, ns, h => by
    cases d with
    | bl i =>
      unfold asB at h
      cases q : asB ds with
      | none => rw [q] at h; cases h
      | some ms =>
        rw [q] at h
        cases h
        rw [asB_eq q]
        rfl
    | _ => cases h
@[simp] theorem asI_map {ns : List Int} : asI (ns.map D.int) = some ns := by
  induction ns with
  | nil => rfl
  | cons n ns ih =>
    show (asI (ns.map D.int)).map (n :: ·) = _
    rw [ih]
    rfl
@[simp] theorem asB_map {ns : List Bool} : asB (ns.map D.bl) = some ns := by
  induction ns with
  | nil => rfl
  | cons n ns ih =>
    show (asB (ns.map D.bl)).map (n :: ·) = _
    rw [ih]
    rfl
theorem RepL.bls : ∀ {ns : List Bool} {xs : List V}, RepL A H (ns.map D.bl) xs → xs = ns.map V.bl
  | [], xs, h => repL_nil.mp h
  | n :: ns, xs, h => by
    obtain ⟨x, r, rfl, hx, t⟩ := repL_cons.mp (show RepL A H (D.bl n :: ns.map D.bl) xs from h)
    rw [rep_bl.mp hx, RepL.bls t]
    rfl
def gOnI (g : List Int → Option (Kd × D)) : D → Option (Kd × D)
  | .lst ds => (asI ds).bind g
  | _ => none
def gOnB (g : List Bool → Option (Kd × D)) : D → Option (Kd × D)
  | .lst ds => (asB ds).bind g
  | _ => none
theorem gOnI_inv {g : List Int → Option (Kd × D)} {d : D} {p : Kd × D} (h : gOnI g d = some p) : ∃ ns, d = .lst (ns.map D.int) ∧ g ns = some p := by
  cases d with
  | lst ds =>
    replace h : (asI ds).bind g = some p := h
    cases q : asI ds with
    | none => rw [q] at h; cases h
    | some ns =>
      rw [q] at h
      exact ⟨ns, by rw [asI_eq q], h⟩
  | _ => cases h
theorem gOnB_inv {g : List Bool → Option (Kd × D)} {d : D} {p : Kd × D} (h : gOnB g d = some p) : ∃ ns, d = .lst (ns.map D.bl) ∧ g ns = some p := by
  cases d with
  | lst ds =>
    replace h : (asB ds).bind g = some p := h
    cases q : asB ds with
    | none => rw [q] at h; cases h
    | some ns =>
      rw [q] at h
      exact ⟨ns, by rw [asB_eq q], h⟩
  | _ => cases h
def gSum := gOnI fun ns => some (.st, .int ns.sum)
def maxI (n : Int) (ns : List Int) : Int := ns.foldl (fun a b => if b > a then b else a) n
def minI (n : Int) (ns : List Int) : Int := ns.foldl (fun a b => if b < a then b else a) n
def gMax := gOnI fun ns => match ns with | [] => none | n :: ns => some (.st, .int (maxI n ns))
def gMin := gOnI fun ns => match ns with | [] => none | n :: ns => some (.st, .int (minI n ns))
def gAny := gOnB fun bs => some (.st, .bl (bs.any id))
def gAll := gOnB fun bs => some (.st, .bl (bs.all id))
def sortI (ns : List Int) : List Int := ns.mergeSort (fun a b => decide (a ≤ b))
def gSorted := gOnI fun ns => some (.fr, .lst ((sortI ns).map D.int))
theorem sortI_perm (ns : List Int) : (sortI ns).Perm ns := List.mergeSort_perm _ _
theorem sortI_ord (ns : List Int) : (sortI ns).Pairwise (· ≤ ·) := by
  have h := List.pairwise_mergeSort (le := fun a b : Int => decide (a ≤ b)) (fun a b c h1 h2 => by simp at *; omega) (fun a b => by simp; omega) ns
  refine h.imp fun h => ?_
  simpa using h
theorem maxI_spec : ∀ (ns : List Int) (n : Int), maxI n ns ∈ n :: ns ∧ ∀ y ∈ n :: ns, y ≤ maxI n ns
  | [], n => by simp [maxI]
  | m :: ns, n => by
    have hz : ∃ z, (if m > n then m else n) = z ∧ n ≤ z ∧ m ≤ z ∧ (z = m ∨ z = n) := ⟨_, rfl, by split <;> omega, by split <;> omega, by split <;> simp⟩
    obtain ⟨z, ez, z1, z2, z3⟩ := hz
    have ih := maxI_spec ns z
    have e : maxI n (m :: ns) = maxI z ns := by rw [← ez]; rfl
    rw [e]
    have h0 := ih.2 _ List.mem_cons_self
    refine ⟨?_, fun y hy => ?_⟩
    · rcases List.mem_cons.mp ih.1 with h | h
      · rw [h]; rcases z3 with z3 | z3 <;> simp [z3]
      · simp [h]
    · rcases List.mem_cons.mp hy with h | h
      · omega
      · rcases List.mem_cons.mp h with h | h
        · omega
        · exact ih.2 y (List.mem_cons_of_mem _ h)
theorem minI_spec : ∀ (ns : List Int) (n : Int), minI n ns ∈ n :: ns ∧ ∀ y ∈ n :: ns, minI n ns ≤ y
  | [], n => by simp [minI]
  | m :: ns, n => by
    have hz : ∃ z, (if m < n then m else n) = z ∧ z ≤ n ∧ z ≤ m ∧ (z = m ∨ z = n) := ⟨_, rfl, by split <;> omega, by split <;> omega, by split <;> simp⟩
    obtain ⟨z, ez, z1, z2, z3⟩ := hz
    have ih := minI_spec ns z
    have e : minI n (m :: ns) = minI z ns := by rw [← ez]; rfl
    rw [e]
    have h0 := ih.2 _ List.mem_cons_self
    refine ⟨?_, fun y hy => ?_⟩
    · rcases List.mem_cons.mp ih.1 with h | h
      · rw [h]; rcases z3 with z3 | z3 <;> simp [z3]
      · simp [h]
    · rcases List.mem_cons.mp hy with h | h
      · omega
      · rcases List.mem_cons.mp h with h | h
        · omega
        · exact ih.2 y (List.mem_cons_of_mem _ h)
theorem oI {ns : List Int} {x : V} (s : Sr A B Hb H σ c) (hx : RepO A Hb H (.lst (ns.map D.int)) x) : ∃ a, x = V.ref a ∧ H a = some (.lst (ns.map V.int)) := by
  obtain ⟨a, xs, rfl, h1, h2⟩ := hx.lst s.same
  rw [h2.ints] at h1
  exact ⟨a, rfl, h1⟩
theorem oB {ns : List Bool} {x : V} (s : Sr A B Hb H σ c) (hx : RepO A Hb H (.lst (ns.map D.bl)) x) : ∃ a, x = V.ref a ∧ H a = some (.lst (ns.map V.bl)) := by
  obtain ⟨a, xs, rfl, h1, h2⟩ := hx.lst s.same
  rw [h2.bls] at h1
  exact ⟨a, rfl, h1⟩
theorem cd_sum (hc : X.calm = true) : CaD1 X A (.builtin "sum") gSum := by
  refine ⟨_, cr_sum hc, fun B Hb H σ c da x k d Q s hx e q => ?_⟩
  obtain ⟨ns, rfl, e1⟩ := gOnI_inv e
  cases e1
  obtain ⟨a, rfl, h1⟩ := oI s hx
  exact ⟨a, ns, rfl, SqL.of h1, q _ Hb H s .refl rk_int⟩
theorem cd_max (hc : X.calm = true) : CaD1 X A (.builtin "max") gMax := by
  refine ⟨_, cr_max hc, fun B Hb H σ c da x k d Q s hx e q => ?_⟩
  obtain ⟨ns, rfl, e1⟩ := gOnI_inv e
  cases ns with
  | nil => cases e1
  | cons n ns =>
    cases e1
    obtain ⟨a, rfl, h1⟩ := oI s hx
    refine ⟨a, n :: ns, rfl, SqL.of h1, by simp, fun m hm hy => ?_⟩
    have sp := maxI_spec ns n
    have : m = maxI n ns := Int.le_antisymm (sp.2 m hm) (hy _ sp.1)
    subst this
    exact q _ Hb H s .refl rk_int
theorem cd_min (hc : X.calm = true) : CaD1 X A (.builtin "min") gMin := by
  refine ⟨_, cr_min hc, fun B Hb H σ c da x k d Q s hx e q => ?_⟩
  obtain ⟨ns, rfl, e1⟩ := gOnI_inv e
  cases ns with
  | nil => cases e1
  | cons n ns =>
    cases e1
    obtain ⟨a, rfl, h1⟩ := oI s hx
    refine ⟨a, n :: ns, rfl, SqL.of h1, by simp, fun m hm hy => ?_⟩
    have sp := minI_spec ns n
    have : m = minI n ns := Int.le_antisymm (hy _ sp.1) (sp.2 m hm)
    subst this
    exact q _ Hb H s .refl rk_int
theorem cd_any (hc : X.calm = true) : CaD1 X A (.builtin "any") gAny := by
  refine ⟨_, cr_any hc, fun B Hb H σ c da x k d Q s hx e q => ?_⟩
  obtain ⟨ns, rfl, e1⟩ := gOnB_inv e
  cases e1
  obtain ⟨a, rfl, h1⟩ := oB s hx
  exact ⟨a, ns, rfl, SqL.of h1, q _ Hb H s .refl rk_bl⟩
theorem cd_all (hc : X.calm = true) : CaD1 X A (.builtin "all") gAll := by
  refine ⟨_, cr_all hc, fun B Hb H σ c da x k d Q s hx e q => ?_⟩
  obtain ⟨ns, rfl, e1⟩ := gOnB_inv e
  cases e1
  obtain ⟨a, rfl, h1⟩ := oB s hx
  exact ⟨a, ns, rfl, SqL.of h1, q _ Hb H s .refl rk_bl⟩
theorem cd_sorted : CaD1 X A (.builtin "sorted") gSorted := by
  refine ⟨_, cr_sortedI, fun B Hb H σ c da x k d Q s hx e q => ?_⟩
  obtain ⟨ns, rfl, e1⟩ := gOnI_inv e
  cases e1
  obtain ⟨a, rfl, h1⟩ := oI s hx
  refine ⟨a, ns, rfl, SqL.of h1, fun ns' p hp ho hn => ?_⟩
  have : ns' = sortI ns := PySem.W.ksm_same (hp.trans (sortI_perm ns).symm) ho (sortI_ord ns)
  subst this
  obtain ⟨s4, t4, r4⟩ := s.newLst hn (RepL.of_ints (A := A) (H := Hb) (sortI ns))
  exact q _ _ _ s4 t4 r4
end
end DL
namespace DL
open PySem PySem.Spec PyProof.Rows L2

/-! ### statements -/
inductive SR where
  | nx (c : Cfg) | ret (fr : Bool) (d : D) (W : Wd) | brk (c : Cfg) | cnt (c : Cfg) | exc (x : XD) (W : Wd) | bad
abbrev SF := Cfg → SR
def RepR (A : Am) (B : Bs) (Hb H : Hp) : Bool → D → V → Prop
  | false, d, v => Rep A Hb d v
  | true, d, v => ∃ a, FrO A B Hb H d v a
def SPost (A : Am) (B : Bs) (E : XK) (Hb : Hp) (D : Ends) : SR → Prop
  | .nx c' => ∀ (σ' : L2.St) (Hb' H' : Hp), Same Hb Hb' → Sr A B Hb' H' σ' c' → D.nx σ' H'
  | .brk c' => ∀ (σ' : L2.St) (Hb' H' : Hp), Same Hb Hb' → Sr A B Hb' H' σ' c' → D.bk σ' H'
  | .cnt c' => ∀ (σ' : L2.St) (Hb' H' : Hp), Same Hb Hb' → Sr A B Hb' H' σ' c' → D.ct σ' H'
  | .ret fr d W' => ∀ (v : V) (Hb' H' : Hp), Fin A B Hb' H' W' → RepR A B Hb' H' fr d v → D.rt v H'
  | .exc x W' => ExcW A B E x W'
  | .bad => False
def rdS (A : Am) (B : Bs) (E : XK) (f : SF) : TS := fun D σ H => ∃ (Hb : Hp) (c : Cfg), Sr A B Hb H σ c ∧ SPost A B E Hb D (f c)
def DS (X : Cx) (A : Am) (B : Bs) (E : XK) (st : Stmt) (f : SF) : Prop := PS X st (rdS A B E f)
def DSs (X : Cx) (A : Am) (B : Bs) (E : XK) (st : List Stmt) (f : SF) : Prop := PSs X st (rdS A B E f)
def SR.bind (r : SR) (f : SF) : SR := match r with
  | .nx c => f c
  | .ret fr d W => .ret fr d W
  | .brk c => .brk c
  | .cnt c => .cnt c
  | .exc x W => .exc x W
  | .bad => .bad
@[simp] theorem sbind_nx {c} {f : SF} : (SR.nx c).bind f = f c := rfl
@[simp] theorem sbind_ret {fr d W} {f : SF} : (SR.ret fr d W).bind f = .ret fr d W := rfl
@[simp] theorem sbind_brk {c} {f : SF} : (SR.brk c).bind f = .brk c := rfl
@[simp] theorem sbind_cnt {c} {f : SF} : (SR.cnt c).bind f = .cnt c := rfl
@[simp] theorem sbind_exc {x W} {f : SF} : (SR.exc x W).bind f = .exc x W := rfl
@[simp] theorem sbind_bad {f : SF} : SR.bad.bind f = .bad := rfl
def ER.toS (r : ER) (f : Kd → D → Cfg → SR) : SR := match r with
  | .ok k d c => f k d c
  | .exc x W => .exc x W
  | .bad => .bad
@[simp] theorem toS_ok {k d c} {f : Kd → D → Cfg → SR} : (ER.ok k d c).toS f = f k d c := rfl
@[simp] theorem toS_exc {x W} {f : Kd → D → Cfg → SR} : (ER.exc x W).toS f = .exc x W := rfl
@[simp] theorem toS_bad {f : Kd → D → Cfg → SR} : ER.bad.toS f = .bad := rfl
def sSeq (f g : SF) : SF := fun c => (f c).bind g
def sNil : SF := fun c => .nx c
/-- a result goes into a slot -/
def putK (i : Nat) (k : Kd) (d : D) (c : Cfg) : SR := if i < c.r.length then (match k with
  | .st => .nx (c.put i (some (false, d)))
  | .fr => .nx (c.put i (some (true, d)))
  | .bo => .bad) else .bad
def sSet (i : Nat) (f : EF) : SF := fun c => (f c).toS (putK i)
def sDrop (f : EF) : SF := fun c => (f c).toS fun _ _ c1 => .nx c1
def sRet (f : EF) : SF := fun c => (f c).toS fun k d c1 => match k with
  | .st => .ret false d c1.W
  | .fr => .ret true d c1.W
  | .bo => .bad
def sRetN : SF := fun c => .ret false .non c.W
def sIf (ft : EF) (f g : SF) : SF := fun c => (ft c).toS fun _ d c1 => match d with | .bl b => (if b then f c1 else g c1) | _ => .bad
def sBrk : SF := fun c => .brk c
def sCnt : SF := fun c => .cnt c
section
variable {X : Cx} {A : Am} {B : Bs} {E : XK} {Hb H Hb1 H1 : Hp} {σ : List (Option V)} {c c1 : Cfg} {fa fb fc : EF} {f g : SF} {De : Ends}
theorem SPost.mono {r : SR} (e : Same Hb Hb1) (h : SPost A B E Hb De r) : SPost A B E Hb1 De r := by
  cases r with
  | nx c' => exact fun σ' Hb' H' e' s => h σ' Hb' H' (e.trans e') s
  | brk c' => exact fun σ' Hb' H' e' s => h σ' Hb' H' (e.trans e') s
  | cnt c' => exact fun σ' Hb' H' e' s => h σ' Hb' H' (e.trans e') s
  | ret fr d W => exact h
  | exc x W => exact h
  | bad => exact h
theorem rs_then {K : Kd → D → Cfg → SR} {Q' : VK} (s : Sr A B Hb H σ c) (h : SPost A B E Hb De ((fa c).toS K))
    (n : ∀ k d c1 v Hb1 H1, fa c = .ok k d c1 → Sr A B Hb1 H1 σ c1 → Stp A Hb H Hb1 H1 → RepK A B Hb1 H1 σ c1 k d v → SPost A B E Hb1 De (K k d c1) → Q' v H1) : rdE A B E fa σ H Q' := by
  refine ⟨Hb, c, s, ?_⟩
  cases e : fa c with
  | ok k d c1 =>
    rw [e] at h
    exact fun v Hb1 H1 s1 t k1 => n k d c1 v Hb1 H1 e s1 t k1 (h.mono t.b)
  | exc x W => rw [e] at h; exact h
  | bad => rw [e] at h; exact h
theorem rs_thenT {K : Bool → Cfg → SR} {Q' : Bool → Hp → Prop} (s : Sr A B Hb H σ c) (h : SPost A B E Hb De ((fa c).toS fun _ d c1 => match d with | .bl b => K b c1 | _ => .bad))
    (n : ∀ b c1 Hb1 H1, Sr A B Hb1 H1 σ c1 → SPost A B E Hb1 De (K b c1) → Q' b H1) : rdT A B E fa σ H Q' := by
  refine ⟨Hb, c, s, ?_⟩
  cases e : fa c with
  | ok k d c1 =>
    rw [e] at h
    cases d with
    | bl b => exact ⟨b, rfl, fun Hb1 H1 s1 t => n b c1 Hb1 H1 s1 (h.mono t.b)⟩
    | _ => exact False.elim h
  | exc x W => rw [e] at h; exact h
  | bad => rw [e] at h; exact h
theorem dss_nil : DSs X A B E [] sNil := PSs.imp pss_nil fun D σ H ⟨Hb, c, s, q⟩ => q σ Hb H (Same.refl _) s
theorem dss_cons {st : Stmt} {sts : List Stmt} (h1 : DS X A B E st f) (h2 : DSs X A B E sts g) : DSs X A B E (st :: sts) (sSeq f g) := PSs.imp (pss_cons h1 h2) fun D σ H ⟨Hb, c, s, q⟩ => by
  refine ⟨Hb, c, s, ?_⟩
  unfold sSeq at q
  cases e : f c with
  | nx c1 => rw [e] at q; exact fun σ' Hb' H' e1 s1 => ⟨Hb', c1, s1, q.mono e1⟩
  | ret fr d W => rw [e] at q; exact q
  | brk c1 => rw [e] at q; exact q
  | cnt c1 => rw [e] at q; exact q
  | exc x W => rw [e] at q; exact q
  | bad => rw [e] at q; exact q
theorem dss_one {st : Stmt} (h1 : DS X A B E st f) : DSs X A B E [st] f := PSs.imp (pss_one h1) fun D σ H q => q
theorem Sr.putK {i : Nat} {k : Kd} {d : D} {v : V} (s : Sr A B Hb H σ c) (r : RepK A B Hb H σ c k d v) (q : SPost A B E Hb De (putK i k d c)) : De.nx (σ.set i (some v)) H := by
  unfold DL.putK at q
  split at q
  · rename_i hi
    cases k with
    | st => exact q _ Hb H (Same.refl _) (s.setS hi r)
    | fr =>
      obtain ⟨a, h1, h2⟩ := r
      exact q _ Hb H (Same.refl _) (s.setO hi h1 h2)
    | bo => exact False.elim q
  · exact False.elim q
/-- name = e, by whatever rule the statement has -/
theorem ds_set {i : Nat} {st : Stmt} (h : PS X st (tAsg (rdE A B E fa) (gName i))) : DS X A B E st (sSet i fa) := PS.imp h fun D σ H ⟨Hb, c, s, q⟩ => by
  show rdE A B E fa σ H fun x H1 => D.nx (σ.set i (some x)) H1
  exact rs_then s q fun k d c1 v Hb1 H1 _ s1 _ k1 q1 => s1.putK k1 q1
theorem ds_drop {e : Expr} {pos : Pos} (he : DE X A B E e fa) (hs : swapsWith e none pos.line X.env = pure false := by rfl) : DS X A B E (.Expr e pos) (sDrop fa) := PS.imp (ps_expr he hs) fun D σ H ⟨Hb, c, s, q⟩ => by
  show rdE A B E fa σ H fun x H1 => D.nx σ H1
  exact rs_then s q fun k d c1 v Hb1 H1 _ s1 _ k1 q1 => q1 σ Hb1 H1 (Same.refl _) s1
theorem ds_ret {e : Expr} {pos : Pos} (he : DE X A B E e fa) : DS X A B E (.Return (some e) pos) (sRet fa) := PS.imp (ps_ret he) fun D σ H ⟨Hb, c, s, q⟩ => by
  show rdE A B E fa σ H D.rt
  refine rs_then s q fun k d c1 v Hb1 H1 _ s1 _ k1 q1 => ?_
  cases k with
  | st => exact q1 v Hb1 H1 s1.fin k1
  | fr =>
    obtain ⟨a, h1, h2⟩ := k1
    exact q1 v Hb1 H1 s1.fin ⟨a, h1⟩
  | bo => exact False.elim q1
theorem ds_retN {pos : Pos} : DS X A B E (.Return none pos) sRetN := PS.imp ps_retN fun D σ H ⟨Hb, c, s, q⟩ => q .non Hb H s.fin ((rep_non (A := A) (H := Hb)).mpr rfl)
theorem ds_if {t : Expr} {a b : List Stmt} {pos : Pos} (ht : DT X A B E t fa) (ha : DSs X A B E a f) (hb : DSs X A B E b g) : DS X A B E (.If t a b pos) (sIf fa f g) := PS.imp (ps_if ht ha hb) fun D σ H ⟨Hb, c, s, q⟩ => by
  show rdT A B E fa σ H _
  refine rs_thenT (K := fun b c1 => if b then f c1 else g c1) s q fun b c1 Hb1 H1 s1 q1 => ?_
  cases b with
  | true => exact ⟨Hb1, c1, s1, q1⟩
  | false => exact ⟨Hb1, c1, s1, q1⟩
/-! ### a list of the frame's own is changed -/
theorem tabs_upd {T : List (Addr × Str)} {H : Hp} {a : Addr} {xs : List V} {o : HO} (t : LamX.Tabs T H) (h : H a = some (.lst xs)) : LamX.Tabs T (upd H a o) := fun p hp => by
  obtain ⟨ps, h1, h2, h3⟩ := t p hp
  refine ⟨ps, ?_, h2, fun pos cv hc => ?_⟩
  · rw [upd_ne (ne_of h1 h (by intro z; cases z))]
    exact h1
  · obtain ⟨cc, e1, e2⟩ := h3 pos cv hc
    refine ⟨cc, e1, ?_⟩
    rw [upd_ne (ne_of e2 h (by intro z; unfold LamX.CodeO at z; cases z))]
    exact e2
theorem Sr.mut {i : Nat} {ds ds' : List D} {xs' : List V} (s : Sr A B Hb H σ c) (h : c.r[i]? = some (some (true, .lst ds))) (a : Addr) (ha : σ[i]? = some (some (V.ref a))) (r : RepL A Hb ds' xs') :
    Sr A B Hb (upd H a (.lst xs')) σ (c.put i (some (true, .lst ds'))) := by
  obtain ⟨a', o, h1, h2, ⟨xs, h3, h4⟩, h5, h6, h7⟩ := s.ow i _ h
  rw [ha] at h1
  cases h1
  subst h3
  have hi : i < c.r.length := (List.getElem?_eq_some_iff.mp h).1
  have hw : ∀ w, A.ws = some w → w.1 ≠ a ∧ w.2 ≠ a := fun w hw => ⟨fun z => h6 ⟨w, hw, .inl z.symm⟩, fun z => h6 ⟨w, hw, .inr z.symm⟩⟩
  refine ⟨⟨⟨fun p u e => ?_, s.fin.hr.notb, fun w e => ?_, tabs_upd s.fin.hr.tabs h2⟩, s.fin.b0, ⟨fun p u e => ?_, fun p u e n t => ?_⟩, s.fin.nb⟩, by simp [Cfg.put, s.len], fun j d e => ?_, fun j d e => ?_, fun j l dj dl b hj hl e1 e2 => ?_, fun p hp => ?_⟩
  rotate_right
  · obtain ⟨⟨u, g1⟩, g2, g3⟩ := s.pr p hp
    have hpa : p ≠ a := fun z => g3 i _ h (by rw [ha, z])
    refine ⟨⟨u, by rw [upd_ne hpa]; exact g1⟩, g2, fun j d hj z => ?_⟩
    rcases put_get hj with ⟨rfl, q⟩ | ⟨n, q⟩
    · exact g3 _ _ h z
    · exact g3 j d q z
  · have : p ≠ a := ne_of_none e h5
    rw [upd_ne this]
    exact s.fin.hr.same p u e
  · obtain ⟨w1, w2, w3, w4, w5⟩ := s.fin.hr.w w e
    obtain ⟨n1, n2⟩ := hw w e
    exact ⟨by rw [upd_ne n1]; exact w1, by rw [upd_ne n2]; exact w2, w3, w4, w5⟩
  · by_cases hp : p = a
    · subst hp; exact ⟨_, upd_same⟩
    · rw [upd_ne hp]; exact s.fin.kp.it p u e
  · have : p ≠ a := ne_of_none e h7
    rw [upd_ne this]
    exact s.fin.kp.eq p u e n t
  · rcases put_get e with ⟨rfl, q⟩ | ⟨n, q⟩
    · cases q
    · exact s.sh j d q
  · rcases put_get e with ⟨rfl, q⟩ | ⟨n, q⟩
    · cases q
      exact ⟨a, _, ha, upd_same, ⟨_, rfl, r⟩, h5, h6, h7⟩
    · obtain ⟨b, u, g1, g2, g3⟩ := s.ow j d q
      have : b ≠ a := fun z => n (s.sep j i d _ a q h (by rw [g1, z]) ha)
      exact ⟨b, u, g1, by rw [upd_ne this]; exact g2, g3⟩
  · have f : ∀ {j d}, (c.put i (some (true, .lst ds'))).r[j]? = some (some (true, d)) → ∃ d', c.r[j]? = some (some (true, d')) := fun {j d} e => by
      rcases put_get e with ⟨rfl, q⟩ | ⟨n, q⟩
      · exact ⟨_, h⟩
      · exact ⟨_, q⟩
    obtain ⟨dj', hj'⟩ := f hj
    obtain ⟨dl', hl'⟩ := f hl
    exact s.sep j l dj' dl' b hj' hl' e1 e2
theorem own_at {i : Nat} {ds : List D} (s : Sr A B Hb H σ c) (h : c.r[i]? = some (some (true, .lst ds))) : ∃ a xs, σ[i]? = some (some (V.ref a)) ∧ H a = some (.lst xs) ∧ RepL A Hb ds xs := by
  obtain ⟨a, o, h1, h2, ⟨xs, h3, h4⟩, _⟩ := s.ow i _ h
  subst h3
  exact ⟨a, xs, h1, h2, h4⟩
/-- the own list of a slot -/
def ownL (c : Cfg) (i : Nat) : Option (List D) := match c.r[i]? with
  | some (some (true, .lst ds)) => some ds
  | _ => none
theorem ownL_eq {i : Nat} {ds : List D} (h : ownL c i = some ds) : c.r[i]? = some (some (true, .lst ds)) := by
  unfold ownL at h
  split at h
  · rename_i ds' e
    cases h
    exact e
  · cases h
theorem keepS {k : Kd} {d : D} {v : V} (s : Sr A B Hb H σ c) (h : RepK A B Hb H σ c k d v) (hk : k ≠ .bo) : ∃ Hb', Sr A B Hb' H σ c ∧ Same Hb Hb' ∧ Rep A Hb' d v := h.keep s hk
/-- x.append(e) -/
def sApp (i : Nat) (fe : EF) : SF := fun c => if (ownL c i).isSome then (fe c).toS (fun k d c1 => match k with
  | .bo => .bad
  | _ => match ownL c1 i with
    | some ds => if ds.length < big then .nx (c1.put i (some (true, .lst (ds ++ [d])))) else .bad
    | none => .bad) else .bad
theorem ds_app {i : Nat} {st : Stmt} (h : PS X st (tDrop (tBM X.K "list" rAppend (tVar i) (tCons (rdE A B E fa) tNil)))) : DS X A B E st (sApp i fa) := PS.imp h fun D σ H ⟨Hb, c, s, q⟩ => by
  unfold sApp at q
  split at q
  · rename_i ho
    obtain ⟨ds0, e0⟩ := Option.isSome_iff_exists.mp ho
    obtain ⟨a, xs0, h1, h2, _⟩ := own_at s (ownL_eq e0)
    refine ⟨_, h1, Or.inl ⟨rfl, _, Or.inl (Or.inl h2)⟩, ?_⟩
    refine rs_then s q fun k d c1 v Hb1 H1 _ s1 t1 k1 q1 => ?_
    have key : k ≠ .bo → SPost A B E Hb1 D (match ownL c1 i with
      | some ds => if ds.length < big then .nx (c1.put i (some (true, .lst (ds ++ [d])))) else .bad
      | none => .bad) → rAppend (V.ref a) [v] H1 fun _ H2 => D.nx σ H2 := fun hk q1 => by
      split at q1
      · rename_i ds e1
        split at q1
        · rename_i hl
          obtain ⟨Hb2, s2, e2, r2⟩ := keepS s1 k1 hk
          obtain ⟨a', xs, g1, g2, g3⟩ := own_at s2 (ownL_eq e1)
          rw [h1] at g1
          cases g1
          refine ⟨a, xs, v, rfl, rfl, g2, ?_, ?_⟩
          · rw [← g3.len]
            exact Nat.lt_of_lt_of_le hl (by rw [sizeLine_eq]; decide)
          · exact q1 _ _ _ e2 (s2.mut (ownL_eq e1) a h1 (g3.append (RepL.cons r2 RepL.nil)))
        · exact False.elim q1
      · exact False.elim q1
    cases k with
    | st => exact key (by intro z; cases z) q1
    | fr => exact key (by intro z; cases z) q1
    | bo => exact False.elim q1
  · exact False.elim q
end
end DL
namespace DL
open PySem PySem.Spec PyProof.Rows L2

/-! ### x[i] = e, x the frame's own list -/
def sPutI (i : Nat) (fi fe : EF) : SF := fun c => (fe c).toS fun k d c1 => match k with
  | .bo => .bad
  | _ => if (ownL c1 i).isSome then (fi c1).toS (fun _ di c2 => match di, ownL c2 i with
    | .int n, some ds => match ixN ds.length n with
      | some j => .nx (c2.put i (some (true, .lst (ds.set j d))))
      | none => .bad
    | _, _ => .bad) else .bad
section
variable {X : Cx} {A : Am} {B : Bs} {E : XK} {Hb H Hb1 H1 : Hp} {σ : List (Option V)} {c c1 : Cfg} {fa fb fc : EF} {f g : SF} {De : Ends} {ga gb : AF}
theorem ds_putI {i : Nat} {st : Stmt} (h : PS X st (tAsg (rdE A B E fa) (gSub (tVar i) (rdE A B E fb) rSetL))) : DS X A B E st (sPutI i fb fa) := PS.imp h fun D σ H ⟨Hb, c, s, q⟩ => by
  show rdE A B E fa σ H _
  refine rs_then s q fun k d c1 v Hb1 H1 _ s1 _ k1 q1 => ?_
  have key : k ≠ .bo → SPost A B E Hb1 D (if (ownL c1 i).isSome then (fb c1).toS (fun _ di c2 => match di, ownL c2 i with
    | .int n, some ds => match ixN ds.length n with
      | some j => .nx (c2.put i (some (true, .lst (ds.set j d))))
      | none => .bad
    | _, _ => .bad) else .bad) → gSub (tVar i) (rdE A B E fb) rSetL v σ H1 D.nx := fun hk q1 => by
    split at q1
    · rename_i ho
      obtain ⟨Hb2, s2, e2, r2⟩ := keepS s1 k1 hk
      obtain ⟨ds0, e0⟩ := Option.isSome_iff_exists.mp ho
      obtain ⟨a, xs0, h1, h2, _⟩ := own_at s2 (ownL_eq e0)
      refine ⟨_, h1, ?_⟩
      refine rs_then s2 (q1.mono e2) fun k' d' c2 v' Hb3 H3 _ s3 t3 k3 q3 => ?_
      cases d' with
      | int n =>
        cases eo : ownL c2 i with
        | none => rw [eo] at q3; exact False.elim q3
        | some ds =>
          rw [eo] at q3
          dsimp only at q3
          cases ej : ixN ds.length n with
          | none => rw [ej] at q3; exact False.elim q3
          | some j =>
            rw [ej] at q3
            obtain ⟨a', xs, g1, g2, g3⟩ := own_at s3 (ownL_eq eo)
            rw [h1] at g1
            cases g1
            refine ⟨a, xs, n, j, rfl, k3.o.int, g2, by rw [← g3.len]; exact ej, ?_⟩
            exact q3 _ _ _ (Same.refl _) (s3.mut (ownL_eq eo) a h1 (g3.set j (Rep.mono t3.b _ _ r2)))
      | _ => exact False.elim q3
    · exact False.elim q1
  cases k with
  | st => exact key (by intro z; cases z) q1
  | fr => exact key (by intro z; cases z) q1
  | bo => exact False.elim q1
/-! ### targets -/
/-- a target takes data: what becomes of the slots; those at js alone change -/
def TgS (A : Am) (t : TG) (js : List Nat) (f : D → Cfg → Option Cfg) : Prop := ∀ (B : Bs) (Hb H : Hp) (σ : List (Option V)) (c c' : Cfg) (d : D) (v : V) (Q : L2.St → Hp → Prop), Sr A B Hb H σ c → Rep A Hb d v → f d c = some c' →
  (∀ σ' : List (Option V), Sr A B Hb H σ' c' → (σ'.length = σ.length ∧ ∀ i : Nat, i ∉ js → σ'[i]? = σ[i]?) → Q σ' H) → t v σ H Q
def TgsS (A : Am) (t : TGs) (js : List Nat) (f : List D → Cfg → Option Cfg) : Prop := ∀ (B : Bs) (Hb H : Hp) (σ : List (Option V)) (c c' : Cfg) (ds : List D) (vs : List V) (Q : L2.St → Hp → Prop), Sr A B Hb H σ c → RepL A Hb ds vs → f ds c = some c' →
  (∀ σ' : List (Option V), Sr A B Hb H σ' c' → (σ'.length = σ.length ∧ ∀ i : Nat, i ∉ js → σ'[i]? = σ[i]?) → Q σ' H) → t vs σ H Q
def tgN (i : Nat) (d : D) (c : Cfg) : Option Cfg := if i < c.r.length then some (c.put i (some (false, d))) else none
theorem tgs_name {i : Nat} : TgS A (gName i) [i] (tgN i) := fun B Hb H σ c c' d v Q s r e q => by
  unfold tgN at e
  split at e
  · rename_i hi
    cases e
    refine q _ (s.setS hi r) ⟨List.length_set, fun j hj => List.getElem?_set_ne fun z => hj ?_⟩
    rw [z]
    exact List.mem_singleton.mpr rfl
  · cases e
def tgNil : List D → Cfg → Option Cfg
  | [], c => some c
  | _, _ => none
def tgCons (f : D → Cfg → Option Cfg) (g : List D → Cfg → Option Cfg) : List D → Cfg → Option Cfg
  | d :: ds, c => (f d c).bind (g ds)
  | _, _ => none
theorem tgs_nil : TgsS A gNil [] tgNil := fun B Hb H σ c c' ds vs Q s r e q => by
  cases ds with
  | nil => cases e; exact ⟨repL_nil.mp r, q _ s ⟨rfl, fun _ _ => rfl⟩⟩
  | cons d ds => cases e
theorem tgs_cons {t : TG} {u : TGs} {js ls : List Nat} {f : D → Cfg → Option Cfg} {g : List D → Cfg → Option Cfg} (h1 : TgS A t js f) (h2 : TgsS A u ls g) : TgsS A (gCons t u) (js ++ ls) (tgCons f g) := fun B Hb H σ c c' ds vs Q s r e q => by
  cases ds with
  | nil => cases e
  | cons d ds =>
    obtain ⟨x, xs, rfl, hx, hr⟩ := repL_cons.mp r
    replace e : (f d c).bind (g ds) = some c' := e
    cases e1 : f d c with
    | none => rw [e1] at e; cases e
    | some c1 =>
      rw [e1] at e
      exact ⟨x, xs, rfl, h1 B Hb H σ c c1 d x _ s hx e1 fun σ' s1 k1 => h2 B Hb H σ' c1 c' ds xs Q s1 hr e fun σ2 s2 k2 => q σ2 s2 ⟨k2.1.trans k1.1, fun i hi => (k2.2 i fun z => hi (List.mem_append_right _ z)).trans (k1.2 i fun z => hi (List.mem_append_left _ z))⟩⟩
def tgTup (n : Nat) (g : List D → Cfg → Option Cfg) : D → Cfg → Option Cfg
  | .tup ds, c => if ds.length = n then g ds c else none
  | _, _ => none
theorem tgs_tup {K : PySem.W.Frag} {t : TGs} {js : List Nat} {n : Nat} {g : List D → Cfg → Option Cfg} (h : TgsS A t js g) : TgS A (gTup K n t) js (tgTup n g) := fun B Hb H σ c c' d v Q s r e q => by
  cases d with
  | tup ds =>
    replace e : (if ds.length = n then g ds c else none) = some c' := e
    by_cases hl : ds.length = n
    · rw [if_pos hl] at e
      obtain ⟨a, xs, rfl, g1, g2⟩ := rep_tup.mp r
      exact ⟨a, xs, rfl, SqT.of (s.same _ _ g1), by rw [← g2.len]; exact hl, h B Hb H σ c c' ds xs Q s g2 e q⟩
    · rw [if_neg hl] at e; cases e
  | _ => cases e
/-- target = e -/
def sAsg (f : D → Cfg → Option Cfg) (fe : EF) : SF := fun c => (fe c).toS fun k d c1 => match k with
  | .bo => .bad
  | _ => match f d c1 with
    | some c2 => .nx c2
    | none => .bad
theorem ds_asg {tg e : Expr} {pos : Pos} {f : D → Cfg → Option Cfg} {t : TG} {js : List Nat} (he : DE X A B E e fa) (ht : PG X tg t) (ht' : TgS A t js f) (hs : swapsWithSole [tg] e pos.line X.env = pure false := by rfl) (hw : swappedStores [tg] e X.env = pure none := by rfl)
    (h1 : (assignEach [tg] X.env).map (·.2) = [assign tg X.env] := by rfl) : DS X A B E (.Assign [tg] e pos) (sAsg f fa) := by
  refine PS.imp (ps_asg he ht hs hw h1) fun D σ H ⟨Hb, c, s, q⟩ => ?_
  show rdE A B E fa σ H fun x H1 => t x σ H1 D.nx
  refine rs_then s q fun k d c1 v Hb1 H1 _ s1 _ k1 q1 => ?_
  have key : k ≠ .bo → SPost A B E Hb1 D (match f d c1 with | some c2 => .nx c2 | none => .bad) → t v σ H1 D.nx := fun hk q1 => by
    obtain ⟨Hb2, s2, e2, r2⟩ := keepS s1 k1 hk
    cases ef : f d c1 with
    | none => rw [ef] at q1; exact False.elim q1
    | some c2 =>
      rw [ef] at q1
      exact ht' B Hb2 H1 σ c1 c2 d v _ s2 r2 ef fun σ' s3 _ => q1 σ' Hb2 H1 e2 s3
  cases k with
  | st => exact key (by intro z; cases z) q1
  | fr => exact key (by intro z; cases z) q1
  | bo => exact False.elim q1
/-- x, y = e1, e2 (plain local names) -/
def evPair (fa fb : EF) (K : Kd → D → Kd → D → Cfg → SR) : SF := fun c => (fa c).toS fun k1 d1 c1 => (fb c1).toS fun k2 d2 c2 => K k1 d1 k2 d2 c2
def sPar (i j : Nat) (fa fb : EF) : SF := fun c => (fa c).toS fun k1 d1 c1 => match k1 with
  | .bo => .bad
  | _ => (fb c1).toS fun k2 d2 c2 => match k2 with
    | .bo => .bad
    | _ => if i < c2.r.length ∧ j < c2.r.length then .nx ((c2.put i (some (false, d1))).put j (some (false, d2))) else .bad
/-! ### what is walked -/
def ItOk (A : Am) (J : It) (Hb0 : Hp) (ds : List D) : Prop := ∀ (i : Nat) (B : Bs) (Hb H : Hp) (σ : List (Option V)) (c : Cfg), Same Hb0 Hb → Sr A B Hb H σ c →
  (i = ds.length → J.stop i H) ∧ ∀ d, ds[i]? = some d → J.go i H ∧ ∀ x H', J.yld i H x H' → ∃ Hb', Same Hb Hb' ∧ Kept A H H' ∧ Sr A B Hb' H' σ c ∧ Rep A Hb' d x
def IPost (A : Am) (B : Bs) (E : XK) (Hb H : Hp) (σ : L2.St) (R : It → Hp → Prop) : AR → Prop
  | .ok ds c' => ∀ (J : It) (Hb' H' : Hp), Sr A B Hb' H' σ c' → Stp A Hb H Hb' H' → ItOk A J Hb' ds → R J H'
  | .exc x W' => ExcW A B E x W'
  | .bad => False
def rdI (A : Am) (B : Bs) (E : XK) (f : AF) : TI := fun σ H R => ∃ (Hb : Hp) (c : Cfg), Sr A B Hb H σ c ∧ IPost A B E Hb H σ R (f c)
def DI (X : Cx) (A : Am) (B : Bs) (E : XK) (tg iter : Expr) (f : AF) : Prop := PI X tg iter (rdI A B E f)
theorem PI.imp {tg iter : Expr} {w w' : TI} (h : PI X tg iter w) (i : ∀ σ H R, w' σ H R → w σ H R) : PI X tg iter w' := ⟨fun pins s σ H R I q => h.run pins s σ H R I (i σ H R q)⟩
def evItL (fe : EF) : AF := fun c => match fe c with
  | .ok .bo _ _ => .bad
  | .ok _ (.lst ds) c1 => .ok ds c1
  | .ok _ _ _ => .bad
  | .exc x W => .exc x W
  | .bad => .bad
def evItT (fe : EF) : AF := fun c => match fe c with
  | .ok _ (.tup ds) c1 => .ok ds c1
  | .ok _ _ _ => .bad
  | .exc x W => .exc x W
  | .bad => .bad
theorem itok_list {K : PySem.W.Frag} {a : Addr} {xs : List V} {ds : List D} {Hb0 : Hp} (h : Hb0 a = some (.lst xs)) (r : RepL A Hb0 ds xs) : ItOk A (Itl K a) Hb0 ds := fun i B Hb H σ c e s => by
  have hH : H a = some (.lst xs) := s.same _ _ (e _ _ h)
  refine ⟨fun hl => ⟨xs, SqL.of hH, by rw [← r.len]; exact Nat.le_of_eq hl.symm⟩, fun d hd => ?_⟩
  obtain ⟨x, h1, h2⟩ := r.get hd
  refine ⟨⟨xs, x, SqL.of hH, h1⟩, fun y H' hy => ?_⟩
  obtain ⟨rfl, g⟩ := hy
  have := g xs (SqL.of hH)
  rw [h1] at this
  cases this
  exact ⟨Hb, Same.refl _, Kept.refl _, s, Rep.mono e _ _ h2⟩
theorem itok_tup {K : PySem.W.Frag} {a : Addr} {xs : List V} {ds : List D} {Hb0 : Hp} (h : Hb0 a = some (.tup xs)) (r : RepL A Hb0 ds xs) : ItOk A (Itt K a) Hb0 ds := fun i B Hb H σ c e s => by
  have hH : H a = some (.tup xs) := s.same _ _ (e _ _ h)
  refine ⟨fun hl => ⟨xs, SqT.of hH, by rw [← r.len]; exact Nat.le_of_eq hl.symm⟩, fun d hd => ?_⟩
  obtain ⟨x, h1, h2⟩ := r.get hd
  refine ⟨⟨xs, x, SqT.of hH, h1⟩, fun y H' hy => ?_⟩
  obtain ⟨rfl, g⟩ := hy
  have := g xs (SqT.of hH)
  rw [h1] at this
  cases this
  exact ⟨Hb, Same.refl _, Kept.refl _, s, Rep.mono e _ _ h2⟩
theorem PI.or {tg iter : Expr} {w w' : TI} (h : PI X tg iter w) (h' : PI X tg iter w') : PI X tg iter (fun σ H R => w σ H R ∨ w' σ H R) := ⟨fun pins s σ H R I q => by
  rcases q with q | q
  · exact h.run pins s σ H R I q
  · exact h'.run pins s σ H R I q⟩
def evIt (fe : EF) : AF := fun c => match fe c with
  | .ok .bo _ _ => .bad
  | .ok _ (.lst ds) c1 => .ok ds c1
  | .ok _ (.tup ds) c1 => .ok ds c1
  | .ok _ _ _ => .bad
  | .exc x W => .exc x W
  | .bad => .bad
theorem di_seq {tg e : Expr} (he : DE X A B E e fa) : DI X A B E tg e (evIt fa) := PI.imp (PI.or (pi_list he) (pi_tup he)) fun σ H R ⟨Hb, c, s, q⟩ => by
  unfold evIt at q
  cases ef : fa c with
  | ok k d c1 =>
    rw [ef] at q
    cases k with
    | bo => exact False.elim q
    | st =>
      cases d with
      | lst ds =>
        refine .inl ⟨Hb, c, s, ?_⟩
        rw [ef]
        intro v Hb1 H1 s1 t1 k1
        obtain ⟨a, xs, rfl, h1, h2⟩ := rep_lst.mp k1
        exact ⟨a, rfl, ⟨xs, SqL.of (s1.same _ _ h1)⟩, q _ Hb1 H1 s1 t1 (itok_list h1 h2)⟩
      | tup ds =>
        refine .inr ⟨Hb, c, s, ?_⟩
        rw [ef]
        intro v Hb1 H1 s1 t1 k1
        obtain ⟨a, xs, rfl, h1, h2⟩ := rep_tup.mp k1
        exact ⟨a, rfl, ⟨xs, SqT.of (s1.same _ _ h1)⟩, q _ Hb1 H1 s1 t1 (itok_tup h1 h2)⟩
      | _ => exact False.elim q
    | fr =>
      cases d with
      | lst ds =>
        refine .inl ⟨Hb, c, s, ?_⟩
        rw [ef]
        intro v Hb1 H1 s1 t1 k1
        obtain ⟨Hb2, s2, e2, r2⟩ := keepS s1 k1 (by intro z; cases z)
        obtain ⟨a, xs, rfl, h1, h2⟩ := rep_lst.mp r2
        exact ⟨a, rfl, ⟨xs, SqL.of (s2.same _ _ h1)⟩, q _ Hb2 H1 s2 (t1.trans ⟨e2, .refl _⟩) (itok_list h1 h2)⟩
      | tup ds =>
        refine .inr ⟨Hb, c, s, ?_⟩
        rw [ef]
        intro v Hb1 H1 s1 t1 k1
        obtain ⟨Hb2, s2, e2, r2⟩ := keepS s1 k1 (by intro z; cases z)
        obtain ⟨a, xs, rfl, h1, h2⟩ := rep_tup.mp r2
        exact ⟨a, rfl, ⟨xs, SqT.of (s2.same _ _ h1)⟩, q _ Hb2 H1 s2 (t1.trans ⟨e2, .refl _⟩) (itok_tup h1 h2)⟩
      | _ => exact False.elim q
  | exc x W =>
    rw [ef] at q
    refine .inl ⟨Hb, c, s, ?_⟩
    rw [ef]
    exact q
  | bad => rw [ef] at q; exact False.elim q
/-- ints from lo on -/
def rngD (lo : Int) (n : Nat) : List D := (List.range n).map fun i : Nat => D.int (lo + (i : Int))
theorem itok_rng {lo : Int} {n : Nat} {Hb0 : Hp} : ItOk A (Itr lo n) Hb0 (rngD lo n) := fun i B Hb H σ c e s => by
  refine ⟨fun hl => (show n ≤ i by rw [hl]; simp [rngD]), fun d hd => ?_⟩
  unfold rngD at hd
  rw [List.getElem?_map] at hd
  cases er : (List.range n)[i]? with
  | none => rw [er] at hd; cases hd
  | some j =>
    rw [er] at hd
    cases hd
    have hi : i < n := by simpa using (List.getElem?_eq_some_iff.mp er).1
    have : j = i := by simpa [hi] using er.symm
    subst this
    refine ⟨hi, fun x H' hy => ?_⟩
    obtain ⟨rfl, rfl⟩ := hy
    exact ⟨Hb, Same.refl _, Kept.refl _, s, rep_int.mpr rfl⟩
def rOk (i : Int) : Bool := decide (-(2 ^ 62) ≤ i) && decide (i < 2 ^ 62)
theorem rOk_of {i : Int} (h : rOk i = true) : -(2 ^ 62) ≤ i ∧ i < 2 ^ 62 := by
  unfold rOk at h
  rw [Bool.and_eq_true] at h
  exact ⟨of_decide_eq_true h.1, of_decide_eq_true h.2⟩
def evR1 (fe : EF) : AF := fun c => match fe c with
  | .ok _ (.int j) c1 => if rOk j then .ok (rngD 0 j.toNat) c1 else .bad
  | .ok _ _ _ => .bad
  | .exc x W => .exc x W
  | .bad => .bad
theorem di_range1 {tg e : Expr} {p pos : Pos} (hg : Gl X "range") (hm : X.mg "range" = none) (he : DE X A B E e fa) (hs : starEach [e] X.env = [(false, eval e X.env)] := by rfl) (hs' : starEach [e] X.env = (false, eval e X.env) :: starEach [] X.env := by rfl) : DI X A B E tg (.Call (.Name "range" p) [e] [] pos) (evR1 fa) :=
  PI.imp (pi_range1 hg hm (pa_cons he pa_nil hs') hs) fun σ H R ⟨Hb, c, s, q⟩ => by
    refine ⟨Hb, c, s, ?_⟩
    unfold evR1 at q
    cases ef : fa c with
    | ok k d c1 =>
      rw [ef] at q
      cases d with
      | int j =>
        intro v Hb1 H1 s1 t1 k1
        dsimp only at q
        split at q
        · rename_i hr
          have := rOk_of hr
          exact ⟨j, by rw [k1.o.int], this.1, this.2, q _ Hb1 H1 s1 t1 itok_rng⟩
        · exact False.elim q
      | _ => exact False.elim q
    | exc x W => rw [ef] at q; exact q
    | bad => rw [ef] at q; exact False.elim q
def evR2 (fe ff : EF) : AF := fun c => match fe c with
  | .ok _ (.int i) c1 => (match ff c1 with
    | .ok _ (.int j) c2 => if rOk i && rOk j then .ok (rngD i (j - i).toNat) c2 else .bad
    | .ok _ _ _ => .bad
    | .exc x W => .exc x W
    | .bad => .bad)
  | .ok _ _ _ => .bad
  | .exc x W => .exc x W
  | .bad => .bad
theorem di_range2 {tg e e' : Expr} {p pos : Pos} (hg : Gl X "range") (hm : X.mg "range" = none) (he : DE X A B E e fa) (he' : DE X A B E e' fb) (hs : starEach [e, e'] X.env = [(false, eval e X.env), (false, eval e' X.env)] := by rfl) (hs2 : starEach [e'] X.env = [(false, eval e' X.env)] := by rfl) (h1 : starEach [e, e'] X.env = (false, eval e X.env) :: starEach [e'] X.env := by rfl) (h2 : starEach [e'] X.env = (false, eval e' X.env) :: starEach [] X.env := by rfl) :
    DI X A B E tg (.Call (.Name "range" p) [e, e'] [] pos) (evR2 fa fb) :=
  PI.imp (pi_range2 hg hm (pa_cons he (pa_cons he' pa_nil h2) h1) hs hs2) fun σ H R ⟨Hb, c, s, q⟩ => by
    refine ⟨Hb, c, s, ?_⟩
    unfold evR2 at q
    cases ef : fa c with
    | ok k d c1 =>
      rw [ef] at q
      cases d with
      | int i =>
        intro v Hb1 H1 s1 t1 k1
        refine ⟨Hb1, c1, s1, ?_⟩
        dsimp only at q
        cases ef2 : fb c1 with
        | ok k' d' c2 =>
          rw [ef2] at q
          cases d' with
          | int j =>
            intro v2 Hb2 H2 s2 t2 k2
            dsimp only at q
            split at q
            · rename_i hr
              rw [Bool.and_eq_true] at hr
              have r1 := rOk_of hr.1
              have r2 := rOk_of hr.2
              exact ⟨i, j, by rw [k1.o.int, k2.o.int], ⟨r1.1, r1.2, r2.1, r2.2⟩, q _ Hb2 H2 s2 (t1.trans t2) itok_rng⟩
            · exact False.elim q
          | _ => exact False.elim q
        | exc x W => rw [ef2] at q; exact q
        | bad => rw [ef2] at q; exact False.elim q
      | _ => exact False.elim q
    | exc x W => rw [ef] at q; exact q
    | bad => rw [ef] at q; exact False.elim q
/-! ### for -/
def goFor (tgt : D → Cfg → Option Cfg) (body : SF) : List D → Cfg → SR
  | [], c => .nx c
  | d :: ds, c => match tgt d c with
    | none => .bad
    | some c1 => match body c1 with
      | .nx c2 => goFor tgt body ds c2
      | .cnt c2 => goFor tgt body ds c2
      | .brk c2 => .nx c2
      | .ret fr d W => .ret fr d W
      | .exc x W => .exc x W
      | .bad => .bad
def sFor (it : AF) (tgt : D → Cfg → Option Cfg) (body : SF) : SF := fun c => match it c with
  | .ok ds c1 => goFor tgt body ds c1
  | .exc x W => .exc x W
  | .bad => .bad
theorem ds_for {tg iter : Expr} {body : List Stmt} {pos : Pos} {tgt : D → Cfg → Option Cfg} {t : TG} {js : List Nat} (hp : PassesOwn (model X.prog X.w) X.A X.env X.xe) (hc : X.calm = true) (hi : DI X A B E tg iter ga) (ht : PG X tg t) (ht' : TgS A t js tgt) (hb : DSs X A B E body f) (hf : ∀ x, foldedSetIterable iter X.env x = pure x := by intro _; rfl) :
    DS X A B E (.For tg iter body [] pos) (sFor ga tgt f) := by
  refine PS.imp (ps_for hp hc hi ht hb hf) fun D σ H ⟨Hb, c, s, q⟩ => ?_
  show rdI A B E ga σ H _
  refine ⟨Hb, c, s, ?_⟩
  unfold sFor at q
  cases ei : ga c with
  | exc x W => rw [ei] at q; exact q
  | bad => rw [ei] at q; exact False.elim q
  | ok ds c1 =>
    rw [ei] at q
    intro J Hb0 H0 s0 t0 ok
    refine ⟨fun i m σ' H' => ∃ (Hb' : Hp) (c' : Cfg), Same Hb0 Hb' ∧ Sr A B Hb' H' σ' c' ∧ i + m = ds.length ∧ SPost A B E Hb' D (goFor tgt f (ds.drop i) c'), ⟨ds.length, Hb0, c1, Same.refl _, s0, by omega, (by simpa using q : SPost A B E Hb D _).mono t0.b⟩, ?_⟩
    rintro i m σ' H' ⟨Hb', c', e', s', hm, q'⟩
    obtain ⟨k1, k2⟩ := ok i B Hb' H' σ' c' e' s'
    by_cases hi : i < ds.length
    · have hd : ds[i]? = some ds[i] := List.getElem?_eq_getElem hi
      obtain ⟨g1, g2⟩ := k2 _ hd
      rw [List.drop_eq_getElem_cons hi] at q'
      refine .inr ⟨g1, fun σ2 H2 => ∃ (Hb2 : Hp) (c2 : Cfg), Same Hb0 Hb2 ∧ Sr A B Hb2 H2 σ2 c2 ∧ SPost A B E Hb2 D (goFor tgt f (ds.drop (i + 1)) c2), ?_, ?_⟩
      · rintro σ2 H2 ⟨Hb2, c2, e2, s2, q2⟩
        exact ⟨m - 1, by omega, Hb2, c2, e2, s2, by omega, q2⟩
      · intro x H2 hy
        obtain ⟨Hb2, e2, kp2, s2, r2⟩ := g2 x H2 hy
        have e02 : Same Hb0 Hb2 := e'.trans e2
        unfold goFor at q'
        cases et : tgt ds[i] c' with
        | none => rw [et] at q'; exact False.elim q'
        | some c2 =>
          rw [et] at q'
          refine ht' B Hb2 H2 σ' c' c2 _ x _ s2 r2 et fun σ3 s3 _ => ⟨Hb2, c2, s3, ?_⟩
          dsimp only at q'
          cases eb : f c2 with
          | nx c3 =>
            rw [eb] at q'
            exact fun σ4 Hb4 H4 e4 s4 => ⟨Hb4, c3, e02.trans e4, s4, q'.mono (e2.trans e4)⟩
          | cnt c3 =>
            rw [eb] at q'
            exact fun σ4 Hb4 H4 e4 s4 => ⟨Hb4, c3, e02.trans e4, s4, q'.mono (e2.trans e4)⟩
          | brk c3 =>
            rw [eb] at q'
            exact fun σ4 Hb4 H4 e4 s4 => q' σ4 Hb4 H4 (e2.trans e4) s4
          | ret fr d W =>
            rw [eb] at q'
            exact q'
          | exc xx W =>
            rw [eb] at q'
            exact q'
          | bad =>
            rw [eb] at q'
            exact False.elim q'
    · have : ds.drop i = [] := List.drop_eq_nil_of_le (by omega)
      rw [this] at q'
      exact .inl ⟨k1 (by omega), q' σ' Hb' H' (Same.refl _) s'⟩
end
end DL
namespace DL
open PySem PySem.Spec PyProof.Rows L2

/-! ### while, with fuel told at the entry -/
def goWhile (ft : EF) (body : SF) : Nat → SF
  | 0 => fun _ => .bad
  | n + 1 => fun c => (ft c).toS fun _ d c1 => match d with
    | .bl false => .nx c1
    | .bl true => match body c1 with
      | .nx c2 => goWhile ft body n c2
      | .cnt c2 => goWhile ft body n c2
      | .brk c2 => .nx c2
      | .ret fr d W => .ret fr d W
      | .exc x W => .exc x W
      | .bad => .bad
    | _ => .bad
def sWhile (fuel : Cfg → Nat) (ft : EF) (body : SF) : SF := fun c => goWhile ft body (fuel c) c
section
variable {X : Cx} {A : Am} {B : Bs} {E : XK} {Hb H Hb1 H1 : Hp} {σ : List (Option V)} {c c1 : Cfg} {fa fb fc : EF} {f g : SF} {De : Ends} {ga gb : AF}
theorem ds_while {t : Expr} {body : List Stmt} {pos : Pos} {fuel : Cfg → Nat} (hp : PassesOwn (model X.prog X.w) X.A X.env X.xe) (ht : DT X A B E t fa) (hb : DSs X A B E body f) : DS X A B E (.While t body [] pos) (sWhile fuel fa f) :=
  PS.imp (ps_while hp ht hb) fun D σ H ⟨Hb, c, s, q⟩ => by
    refine ⟨fun m σ' H' => ∃ (Hb' : Hp) (c' : Cfg), Sr A B Hb' H' σ' c' ∧ SPost A B E Hb' D (goWhile fa f m c'), ⟨fuel c, Hb, c, s, q⟩, ?_⟩
    rintro m σ' H' ⟨Hb', c', s', q'⟩
    cases m with
    | zero => exact False.elim q'
    | succ m =>
      refine rs_thenT (De := D) (K := fun b c1 => match b with
        | false => .nx c1
        | true => match f c1 with
          | .nx c2 => goWhile fa f m c2
          | .cnt c2 => goWhile fa f m c2
          | .brk c2 => .nx c2
          | .ret fr d W => .ret fr d W
          | .exc x W => .exc x W
          | .bad => .bad) s' ?_ fun b c1 Hb1 H1 s1 q1 => ?_
      · unfold goWhile at q'
        cases e : fa c' with
        | ok k d c1 =>
          rw [e] at q'
          cases d with
          | bl b => cases b <;> exact q'
          | _ => exact False.elim q'
        | exc x W => rw [e] at q'; exact q'
        | bad => rw [e] at q'; exact q'
      · cases b with
        | false => exact q1 σ' Hb1 H1 (Same.refl _) s1
        | true =>
          rw [if_pos rfl]
          refine ⟨fun σ2 H2 => ∃ (Hb2 : Hp) (c2 : Cfg), Sr A B Hb2 H2 σ2 c2 ∧ SPost A B E Hb2 D (goWhile fa f m c2), fun σ2 H2 h => ⟨m, Nat.lt_succ_self m, h⟩, Hb1, c1, s1, ?_⟩
          dsimp only at q1
          cases eb : f c1 with
          | nx c3 =>
            rw [eb] at q1
            exact fun σ4 Hb4 H4 e4 s4 => ⟨Hb4, c3, s4, q1.mono e4⟩
          | cnt c3 =>
            rw [eb] at q1
            exact fun σ4 Hb4 H4 e4 s4 => ⟨Hb4, c3, s4, q1.mono e4⟩
          | brk c3 =>
            rw [eb] at q1
            exact fun σ4 Hb4 H4 e4 s4 => q1 σ4 Hb4 H4 e4 s4
          | ret fr d W => rw [eb] at q1; exact q1
          | exc xx W => rw [eb] at q1; exact q1
          | bad => rw [eb] at q1; exact False.elim q1
theorem ds_brk {pos} (h : PS X (.Break pos) (fun D σ H => D.bk σ H)) : DS X A B E (.Break pos) sBrk := PS.imp h fun D σ H ⟨Hb, c, s, q⟩ => q σ Hb H (Same.refl _) s
theorem ds_cnt {pos} (h : PS X (.Continue pos) (fun D σ H => D.ct σ H)) : DS X A B E (.Continue pos) sCnt := PS.imp h fun D σ H ⟨Hb, c, s, q⟩ => q σ Hb H (Same.refl _) s
end

/-! ### what a def promises, by data -/
inductive FR where
  | ret (fr : Bool) (d : D) (W : Wd) | exc (x : XD) (W : Wd) | bad
abbrev FF := List D → Wd → FR
def FPost (A : Am) (B : Bs) (E : XK) (Q : VK) : FR → Prop
  | .ret fr d W' => ∀ (v : V) (Hb' H' : Hp), Fin A B Hb' H' W' → RepR A B Hb' H' fr d v → Q v H'
  | .exc x W' => ExcW A B E x W'
  | .bad => False
def spD (A : Am) (n : Nat) (F : FF) : Sp := fun vs H Q E => vs.length = n ∧ ∃ (Hb : Hp) (ds : List D) (W : Wd), HR A Hb H W ∧ RepL A Hb ds vs ∧ FPost A ⟨Hb, H, fun _ => False⟩ E Q (F ds W)
/-- a def called where X stands -/
structure Calls (X : Cx) (f : Addr) (fd : FuncData) (ps : List Str) (sp : Sp) : Prop where
  len : ∀ vs H Q E, sp vs H Q E → vs.length = ps.length
  run : ∀ (s : Shared) (H : Hp) (args : Args) (us : List Value) (vs : List V) (Q : VK) (E : XK), Env0 X.prog X.w X.K X.mg X.base X.A X.stack s H → BindsTo s fd args (ps.zip us) → Vals vs us → sp vs H Q E →
    codeAny (model X.prog X.w) X.A (.call (.ref f) args) (CR (L2.CX X.prog X.w) X.stack X.prog X.w H s Q E) s
theorem Calls.of {X : Cx} {f : Addr} {fd : FuncData} {ps : List Str} {sp : Sp} {k : Nat} (F : FnOk X.prog X.w X.K X.mg X.base (L2.CX X.prog X.w) k f fd ps sp) (hr : Room k X.A) : Calls X f fd ps sp :=
  ⟨F.len, fun s H args us vs Q E e0 hb r h => F.run X.A X.stack s H args us vs Q E hr e0 hb r h⟩
/-- a def's promise where nothing is being shown (the model's guards are known) -/
structure FnG (P : Program) (w : World) (K : PySem.W.Frag) (mg : Str → Option Value) (base : Heap) (k : Nat) (f : Addr) (fd : FuncData) (ps : List Str) (sp : Sp) : Prop where
  len : ∀ vs H Q E, sp vs H Q E → vs.length = ps.length
  run : ∀ (A : Around) (outer : List Env) (s : Shared) (H : Hp) (args : Args) (us : List Value) (vs : List V) (Q : VK) (E : XK), Room k A → A.guards = some [] → Env0 P w K mg base A outer s H → BindsTo s fd args (ps.zip us) → Vals vs us → sp vs H Q E →
    codeAny (model P w) A (.call (.ref f) args) (CR (L2.CX P w) outer P w H s Q E) s
theorem Calls.ofG {X : Cx} {f : Addr} {fd : FuncData} {ps : List Str} {sp : Sp} {k : Nat} (F : FnG X.prog X.w X.K X.mg X.base k f fd ps sp) (hr : Room k X.A) (hg : X.A.guards = some []) : Calls X f fd ps sp :=
  ⟨F.len, fun s H args us vs Q E e0 hb r h => F.run X.A X.stack s H args us vs Q E hr hg e0 hb r h⟩
theorem FnG.of {P : Program} {w : World} {K : PySem.W.Frag} {mg : Str → Option Value} {base : Heap} {k : Nat} {f : Addr} {fd : FuncData} {ps : List Str} {sp : Sp} (F : FnOk P w K mg base (L2.CX P w) k f fd ps sp) : FnG P w K mg base k f fd ps sp :=
  ⟨F.len, fun A outer s H args us vs Q E hr _ e0 hb r h => F.run A outer s H args us vs Q E hr e0 hb r h⟩
section
variable {X : Cx} {A : Am} {B : Bs} {E : XK} {Hb H Hb1 H1 : Hp} {σ : List (Option V)} {c c1 : Cfg} {fa fb fc : EF} {f g : SF} {De : Ends} {ga gb : AF} {fn : Addr} {fd : FuncData} {ps : List Str} {sp : Sp}
/-- the called def has run -/
theorem call_end {pins : List (Addr × Obj)} {s : Shared} {Q : VK} (hx : Passes (L2.CX X.prog X.w) X E) (I : Inv X pins σ H s) : ∀ r s', CR (L2.CX X.prog X.w) X.stack X.prog X.w H s Q E r s' → (match r with
    | .ok (.ret u) => EP X pins σ Q u s'
    | .ok _ => False
    | .error e => X.xe e s') := fun r s' hq => by
  cases r with
  | error e => exact hx pins σ H s e s' I hq
  | ok fl =>
    cases fl with
    | ret u => exact I.after hq
    | next => exact hq.elim
    | brk => exact hq.elim
    | cont => exact hq.elim
theorem run_c {pins : List (Addr × Obj)} {s : Shared} {Q : VK} {us : List Value} {vs : List V} {args : Args} (F : Calls X fn fd ps sp) (hx : Passes (L2.CX X.prog X.w) X E) (I : Inv X pins σ H s) (hb : BindsTo s fd args (ps.zip us)) (r : Vals vs us) (h : sp vs H Q E) :
    wpAny (model X.prog X.w) X.A (call (.ref fn) args.pos args.kw) (EP X pins σ Q) X.xe s := by
  refine wpAny_call (codeAny_mono (F.run s H args us vs Q E I.env0 hb r h) fun r s' hq => ?_)
  have z := call_end hx I r s' hq
  cases r with
  | error e => exact z
  | ok fl =>
    cases fl with
    | ret u => exact z
    | next => exact z.elim
    | brk => exact z.elim
    | cont => exact z.elim
theorem pe_callC {x : Str} {p pos : Pos} {e : Expr} {es : List Expr} {t : TA} (F : Calls X fn fd ps sp) (hx : Passes (L2.CX X.prog X.w) X E) (hg : Gl X x) (hm : X.mg x = some (.ref fn)) (hk : PySem.W.keepIn X.K (.ref fn) = true) (hb : Binds X.K fd ps [])
    (ha : PA X (e :: es) t) (hdb : (x == ("__debug__" : Str)) = false := by decide) (he : starEach (e :: es) X.env = (false, eval e X.env) :: starEach es X.env := by rfl) (hpl : (backTo pos (starEach es X.env)).any (·.1) = false := by rfl) :
    PE X (.Call (.Name x p) (e :: es) [] pos) (fun σ H Q => t σ H fun vs H1 => sp vs H1 Q E) := by
  refine ⟨fun pins s σ H Q I h => ?_⟩
  refine wpAny_Call_Name_kw (ld_glob I hg hm ?_ hdb)
  refine PySem.W.callWith_K (h₀ := X.base) I.ok.mod.kin hk (thn (ha.run pos pins s σ H _ I h) fun us s1 ⟨vs, H1, I1, r, q⟩ => ⟨I1.kIn, ?_⟩) he hpl
  have hl : us.length = ps.length := by rw [← r.length]; exact F.len _ _ _ _ q
  have b := hb s1 us I1.kIn (by rw [List.append_nil]; exact hl)
  rw [List.append_nil] at b
  exact run_c (args := ⟨us, []⟩) F hx I1 b r q
theorem pe_callC0 {x : Str} {p pos : Pos} (F : Calls X fn fd ps sp) (hx : Passes (L2.CX X.prog X.w) X E) (hg : Gl X x) (hm : X.mg x = some (.ref fn)) (hk : PySem.W.keepIn X.K (.ref fn) = true) (hb : Binds X.K fd ps []) (hdb : (x == ("__debug__" : Str)) = false := by decide) :
    PE X (.Call (.Name x p) [] [] pos) (fun σ H Q => sp [] H Q E) := by
  refine ⟨fun pins s σ H Q I h => ?_⟩
  refine wpAny_Call_Name_kw (ld_glob I hg hm ?_ hdb)
  have hl : ([] : List Value).length = ps.length := F.len _ _ _ _ h
  have b := hb s [] I.kIn (by rw [List.append_nil]; exact hl)
  rw [List.append_nil] at b
  exact PySem.W.callWith_K0 I.kIn hk (run_c (us := []) (args := ⟨[], []⟩) F hx I b .nil h)
/-- the values in the parameters' order -/
def permL {α : Type} (π : List Nat) (zs : List α) : List α := π.filterMap fun i => zs[i]?
theorem permL_vals {vs : List V} {us : List Value} (h : Vals vs us) : ∀ π : List Nat, Vals (permL π vs) (permL π us)
  | [] => .nil
  | i :: π => by
    unfold permL
    rw [List.filterMap_cons, List.filterMap_cons]
    cases e : vs[i]? with
    | none =>
      rw [Vals.none_of h e]
      exact permL_vals h π
    | some v =>
      obtain ⟨u, e1, r⟩ := Vals.get h e
      rw [e1]
      exact .cons r (permL_vals h π)
theorem permL_rep {ds : List D} {vs : List V} (h : RepL A Hb ds vs) : ∀ π : List Nat, RepL A Hb (permL π ds) (permL π vs)
  | [] => RepL.nil
  | i :: π => by
    unfold permL
    rw [List.filterMap_cons, List.filterMap_cons]
    cases e : ds[i]? with
    | none =>
      have : vs[i]? = none := List.getElem?_eq_none_iff.mpr (by rw [← h.len]; exact List.getElem?_eq_none_iff.mp e)
      rw [this]
      exact permL_rep h π
    | some d =>
      obtain ⟨v, e1, r⟩ := h.get e
      rw [e1]
      exact RepL.cons r (permL_rep h π)
/-- f(e, .., k = e, ..): n1 places, n2 names ks; π: where each parameter's value stands among them -/
structure KwB (fd : FuncData) (ps ks : List Str) (n1 n2 : Nat) (π : List Nat) : Prop where
  to : ∀ us ws : List Value, us.length = n1 → ws.length = n2 → bindArgs fd ⟨us, ks.zip ws⟩ = pure (ps.zip (permL π (us ++ ws)))
theorem pe_callCK {x : Str} {p pos : Pos} {e : Expr} {es : List Expr} {kws : List Keyword} {ks : List Str} {t tk : TA} {n1 n2 : Nat} {π : List Nat} (F : Calls X fn fd ps sp) (hx : Passes (L2.CX X.prog X.w) X E) (hg : Gl X x) (hm : X.mg x = some (.ref fn)) (hk : PySem.W.keepIn X.K (.ref fn) = true)
    (hb : KwB fd ps ks n1 n2 π) (ha : PA X (e :: es) t) (hkw : PK X kws tk) (hall : (backToKw pos (keywordEach kws X.env)).all (·.1.isSome) = true := by rfl) (hks : (backToKw pos (keywordEach kws X.env)).filterMap (·.1) = ks := by rfl)
    (hdb : (x == ("__debug__" : Str)) = false := by decide) (he : starEach (e :: es) X.env = (false, eval e X.env) :: starEach es X.env := by rfl)
    (hpl : ((backTo pos (starEach (e :: es) X.env)).any (·.1) || (backToKw pos (keywordEach kws X.env)).any (·.1.isNone)) = false := by rfl) :
    PE X (.Call (.Name x p) (e :: es) kws pos) (fun σ H Q => t σ H fun vs H1 => tk σ H1 fun zs H2 => vs.length = n1 ∧ zs.length = n2 ∧ sp (permL π (vs ++ zs)) H2 Q E) := by
  refine ⟨fun pins s σ H Q I h => ?_⟩
  refine wpAny_Call_Name_kw (ld_glob I hg hm ?_ hdb)
  refine PySem.W.callWith_KW (h₀ := X.base) I.ok.mod.kin hk hall (thn (ha.run pos pins s σ H _ I h) fun us s1 ⟨vs, H1, I1, r, q⟩ => ?_) hpl he
  refine thn (hkw.run pos pins s1 σ H1 _ I1 q) fun ws s2 ⟨zs, H2, I2, rz, l1, l2, q2⟩ => ⟨I2.kIn, ?_⟩
  rw [hks]
  exact run_c (args := ⟨us, ks.zip ws⟩) F hx I2 (.of_eq (hb.to us ws (by rw [← r.length]; exact l1) (by rw [← rz.length]; exact l2))) (permL_vals (r.append rz) π) q2
theorem pe_callCK0 {x : Str} {p pos : Pos} {kws : List Keyword} {ks : List Str} {tk : TA} {n2 : Nat} {π : List Nat} (F : Calls X fn fd ps sp) (hx : Passes (L2.CX X.prog X.w) X E) (hg : Gl X x) (hm : X.mg x = some (.ref fn)) (hk : PySem.W.keepIn X.K (.ref fn) = true)
    (hb : KwB fd ps ks 0 n2 π) (hkw : PK X kws tk) (hall : (backToKw pos (keywordEach kws X.env)).all (·.1.isSome) = true := by rfl) (hks : (backToKw pos (keywordEach kws X.env)).filterMap (·.1) = ks := by rfl)
    (hdb : (x == ("__debug__" : Str)) = false := by decide)
    (hpl : ((backTo pos (starEach [] X.env)).any (·.1) || (backToKw pos (keywordEach kws X.env)).any (·.1.isNone)) = false := by rfl) :
    PE X (.Call (.Name x p) [] kws pos) (fun σ H Q => tk σ H fun zs H2 => zs.length = n2 ∧ sp (permL π zs) H2 Q E) := by
  refine ⟨fun pins s σ H Q I h => ?_⟩
  refine wpAny_Call_Name_kw (ld_glob I hg hm ?_ hdb)
  refine PySem.W.callWith_KW0 (h₀ := X.base) I.ok.mod.kin hk hall (thn (hkw.run pos pins s σ H _ I h) fun ws s2 ⟨zs, H2, I2, rz, l2, q2⟩ => ⟨I2.kIn, ?_⟩) hpl
  rw [hks]
  exact run_c (args := ⟨[], ks.zip ws⟩) F hx I2 (.of_eq (hb.to [] ws rfl (by rw [← rz.length]; exact l2))) (permL_vals rz π) q2
/-! ### the state behind a call -/
theorem Sr.called {Hb' H' : Hp} {W' : Wd} (s : Sr A B Hb H σ c) (f : Fin A ⟨Hb, H, fun _ => False⟩ Hb' H' W') : Sr A B Hb' H' σ ⟨c.r, W'⟩ := by
  refine ⟨⟨f.hr, s.fin.b0.trans f.b0, s.fin.kp.trans f.kp, fun p o e1 e2 => ?_⟩, s.len, fun i d h => ?_, fun i d h => ?_, s.sep, fun q h => ?_⟩
  · obtain ⟨o', e3⟩ := s.fin.kp.it p o e2
    exact f.nb p o' (s.fin.nb p o e1 e2) e3
  · obtain ⟨v, h1, h2⟩ := s.sh i d h
    exact ⟨v, h1, Rep.mono f.b0 _ _ h2⟩
  · obtain ⟨a, o, h1, h2, h3, h4, h5, h6⟩ := s.ow i d h
    exact ⟨a, o, h1, f.kp.eq a o h2 h5 h3.notb, h3.mono f.b0, f.nb a o h4 h2, h5, h6⟩
  · obtain ⟨⟨o, h1⟩, h2, h3⟩ := s.pr q h
    exact ⟨f.kp.it q o h1, f.nb q o h2 h1, h3⟩
theorem RepR.toK {Hb' H' : Hp} {W' : Wd} {fr : Bool} {d : D} {v : V} (s : Sr A B Hb H σ c) (f : Fin A ⟨Hb, H, fun _ => False⟩ Hb' H' W') (r : RepR A ⟨Hb, H, fun _ => False⟩ Hb' H' fr d v) : RepK A B Hb' H' σ ⟨c.r, W'⟩ (if fr then .fr else .st) d v := by
  cases fr with
  | false => exact r
  | true =>
    obtain ⟨a, o, h1, h2, h3, h4, h5, h6, _⟩ := r
    have hn : H a = none := h6
    have np : ¬ B.pr a := fun z => by
      obtain ⟨⟨o, h1⟩, _⟩ := s.pr a z
      rw [hn] at h1
      cases h1
    refine ⟨a, ⟨o, h1, h2, h3, h4, h5, s.fin.h0n hn, np⟩, fun i d' hi z => ?_⟩
    obtain ⟨b, u, g1, g2, _⟩ := s.ow i d' hi
    rw [g1] at z
    cases z
    rw [hn] at g2
    cases g2
def FR.toE (c : Cfg) : FR → ER
  | .ret fr d W => .ok (if fr then .fr else .st) d ⟨c.r, W⟩
  | .exc x W => .exc x W
  | .bad => .bad
@[simp] theorem toE_ret {c fr d W} : FR.toE c (.ret fr d W) = .ok (if fr then .fr else .st) d ⟨c.r, W⟩ := rfl
@[simp] theorem toE_exc {c x W} : FR.toE c (.exc x W) = .exc x W := rfl
@[simp] theorem toE_bad {c} : FR.toE c .bad = .bad := rfl
/-- a def called with data -/
def evCall (n : Nat) (F : FF) (g : AF) : EF := fun c => (g c).bind fun ds c1 => if ds.length = n then (F ds c1.W).toE c1 else .bad
theorem sp_of {n : Nat} {F : FF} {ds : List D} {vs : List V} {Q : VK} (s : Sr A B Hb H σ c) (r : RepL A Hb ds vs) (q : EPost A B E Hb H σ Q (if ds.length = n then (F ds c.W).toE c else .bad)) : spD A n F vs H Q E := by
  split at q
  · rename_i hl
    refine ⟨by rw [← r.len]; exact hl, Hb, ds, c.W, s.fin.hr, r, ?_⟩
    cases e : F ds c.W with
    | ret fr d W' =>
      rw [e] at q
      intro v Hb' H' f rr
      have s' := s.called f
      exact q v Hb' H' s' ⟨f.b0, f.kp⟩ (RepR.toK s f rr)
    | exc x W' =>
      rw [e] at q
      intro cls dd Hb' H' f ex
      exact q cls dd Hb' H' (s.called f).fin ex
    | bad => rw [e] at q; exact q
  · exact False.elim q
theorem de_call {x : Str} {p pos : Pos} {e : Expr} {es : List Expr} {n : Nat} {F : FF} (G : Calls X fn fd ps (spD A n F)) (hx : Passes (L2.CX X.prog X.w) X E) (hg : Gl X x) (hm : X.mg x = some (.ref fn)) (hk : PySem.W.keepIn X.K (.ref fn) = true) (hb : Binds X.K fd ps [])
    (ha : DA X A B E (e :: es) ga) (hdb : (x == ("__debug__" : Str)) = false := by decide) (he : starEach (e :: es) X.env = (false, eval e X.env) :: starEach es X.env := by rfl) (hpl : (backTo pos (starEach es X.env)).any (·.1) = false := by rfl) : DE X A B E (.Call (.Name x p) (e :: es) [] pos) (evCall n F ga) :=
  PE.imp (pe_callC G hx hg hm hk hb ha hdb he hpl) fun σ H Q ⟨Hb, c, s, q⟩ => ra_then s q fun ds c1 vs Hb1 H1 _ s1 t1 k1 q1 => sp_of s1 k1 q1
theorem de_call0 {x : Str} {p pos : Pos} {n : Nat} {F : FF} (G : Calls X fn fd ps (spD A n F)) (hx : Passes (L2.CX X.prog X.w) X E) (hg : Gl X x) (hm : X.mg x = some (.ref fn)) (hk : PySem.W.keepIn X.K (.ref fn) = true) (hb : Binds X.K fd ps []) (hdb : (x == ("__debug__" : Str)) = false := by decide) : DE X A B E (.Call (.Name x p) [] [] pos) (evCall n F evNil) :=
  PE.imp (pe_callC0 G hx hg hm hk hb hdb) fun σ H Q ⟨Hb, c, s, q⟩ => sp_of s RepL.nil q
/-- .. with names: n1 places, n2 names -/
def evCallK (n n1 n2 : Nat) (π : List Nat) (F : FF) (g gk : AF) : EF := fun c => (g c).bind fun ds c1 => (gk c1).bind fun es c2 => if ds.length = n1 ∧ es.length = n2 then (if (permL π (ds ++ es)).length = n then (F (permL π (ds ++ es)) c2.W).toE c2 else .bad) else .bad
theorem de_callK {x : Str} {p pos : Pos} {e : Expr} {es : List Expr} {kws : List Keyword} {ks : List Str} {n n1 n2 : Nat} {π : List Nat} {F : FF} (G : Calls X fn fd ps (spD A n F)) (hx : Passes (L2.CX X.prog X.w) X E) (hg : Gl X x) (hm : X.mg x = some (.ref fn)) (hk : PySem.W.keepIn X.K (.ref fn) = true)
    (hb : KwB fd ps ks n1 n2 π) (ha : DA X A B E (e :: es) ga) (hkw : DK X A B E kws gb) (hall : (backToKw pos (keywordEach kws X.env)).all (·.1.isSome) = true := by rfl) (hks : (backToKw pos (keywordEach kws X.env)).filterMap (·.1) = ks := by rfl)
    (hdb : (x == ("__debug__" : Str)) = false := by decide) (he : starEach (e :: es) X.env = (false, eval e X.env) :: starEach es X.env := by rfl)
    (hpl : ((backTo pos (starEach (e :: es) X.env)).any (·.1) || (backToKw pos (keywordEach kws X.env)).any (·.1.isNone)) = false := by rfl) : DE X A B E (.Call (.Name x p) (e :: es) kws pos) (evCallK n n1 n2 π F ga gb) :=
  PE.imp (pe_callCK G hx hg hm hk hb ha hkw hall hks hdb he hpl) fun σ H Q ⟨Hb, c, s, q⟩ => by
    refine ra_then s q fun ds c1 vs Hb1 H1 _ s1 t1 k1 q1 => ?_
    refine ra_then s1 q1 fun es c2 zs Hb2 H2 _ s2 t2 k2 q2 => ?_
    by_cases hl : ds.length = n1 ∧ es.length = n2
    · rw [if_pos hl] at q2
      refine ⟨by rw [← k1.len]; exact hl.1, by rw [← k2.len]; exact hl.2, ?_⟩
      exact sp_of s2 (permL_rep ((RepL.mono t2.b _ _ k1).append k2) π) q2
    · rw [if_neg hl] at q2
      exact False.elim q2
theorem de_callK0 {x : Str} {p pos : Pos} {kws : List Keyword} {ks : List Str} {n n2 : Nat} {π : List Nat} {F : FF} (G : Calls X fn fd ps (spD A n F)) (hx : Passes (L2.CX X.prog X.w) X E) (hg : Gl X x) (hm : X.mg x = some (.ref fn)) (hk : PySem.W.keepIn X.K (.ref fn) = true)
    (hb : KwB fd ps ks 0 n2 π) (hkw : DK X A B E kws gb) (hall : (backToKw pos (keywordEach kws X.env)).all (·.1.isSome) = true := by rfl) (hks : (backToKw pos (keywordEach kws X.env)).filterMap (·.1) = ks := by rfl)
    (hdb : (x == ("__debug__" : Str)) = false := by decide)
    (hpl : ((backTo pos (starEach [] X.env)).any (·.1) || (backToKw pos (keywordEach kws X.env)).any (·.1.isNone)) = false := by rfl) : DE X A B E (.Call (.Name x p) [] kws pos) (evCallK n 0 n2 π F evNil gb) :=
  PE.imp (pe_callCK0 G hx hg hm hk hb hkw hall hks hdb hpl) fun σ H Q ⟨Hb, c, s, q⟩ => by
    refine ra_then (K := fun es c2 => if ([] : List D).length = 0 ∧ es.length = n2 then (if (permL π ([] ++ es)).length = n then (F (permL π ([] ++ es)) c2.W).toE c2 else .bad) else .bad) s q fun es c2 zs Hb2 H2 _ s2 t2 k2 q2 => ?_
    by_cases hl : ([] : List D).length = 0 ∧ es.length = n2
    · rw [if_pos hl] at q2
      refine ⟨by rw [← k2.len]; exact hl.2, ?_⟩
      exact sp_of s2 (permL_rep k2 π) q2
    · rw [if_neg hl] at q2
      exact False.elim q2
end
/-! ### a def by its body -/
def startC (m : Nat) (ds : List D) (W : Wd) : Cfg := ⟨ds.map (fun d => some (false, d)) ++ List.replicate (m - ds.length) none, W⟩
/-- what a body makes of its arguments -/
def runD (m : Nat) (f : SF) : FF := fun ds W => match f (startC m ds W) with
  | .nx c => .ret false .non c.W
  | .ret fr d W => .ret fr d W
  | .exc x W => .exc x W
  | _ => .bad
theorem sr_start {A : Am} {Hb H : Hp} {W : Wd} {N : List Str} {ds : List D} {vs : List V} (h : HR A Hb H W) (r : RepL A Hb ds vs) : Sr A ⟨Hb, H, fun _ => False⟩ Hb H (L2.start N vs) (startC N.length ds W) := by
  have hl := r.len
  refine ⟨⟨h, Same.refl _, Kept.refl _, fun p o e _ => e⟩, ?_, fun i d e => ?_, fun i d e => ?_, fun i j di dj a e _ _ _ => ?_, fun p z => z.elim⟩
  · unfold startC L2.start
    simp [hl]
  · unfold startC at e
    unfold L2.start
    by_cases hi : i < ds.length
    · rw [List.getElem?_append_left (by simpa using hi), List.getElem?_map] at e
      cases q : ds[i]? with
      | none => rw [q] at e; cases e
      | some d' =>
        rw [q] at e
        cases e
        obtain ⟨v, h1, h2⟩ := r.get q
        refine ⟨v, ?_, h2⟩
        rw [List.getElem?_append_left (by simp; omega), List.getElem?_map, h1]
        rfl
    · rw [List.getElem?_append_right (by simpa using hi)] at e
      rw [List.getElem?_replicate] at e
      split at e <;> cases e
  · exfalso
    unfold startC at e
    by_cases hi : i < ds.length
    · rw [List.getElem?_append_left (by simpa using hi), List.getElem?_map] at e
      cases q : ds[i]? with
      | none => rw [q] at e; cases e
      | some d' => rw [q] at e; cases e
    · rw [List.getElem?_append_right (by simpa using hi)] at e
      rw [List.getElem?_replicate] at e
      split at e <;> cases e
  · exfalso
    unfold startC at e
    by_cases hi : i < ds.length
    · rw [List.getElem?_append_left (by simpa using hi), List.getElem?_map] at e
      cases q : ds[i]? with
      | none => rw [q] at e; cases e
      | some d' => rw [q] at e; cases e
    · rw [List.getElem?_append_right (by simpa using hi)] at e
      rw [List.getElem?_replicate] at e
      split at e <;> cases e
theorem rd_start {A : Am} {E : XK} {Hb H : Hp} {W : Wd} {N : List Str} {ds : List D} {vs : List V} {Q : VK} {f : SF} (h : HR A Hb H W) (r : RepL A Hb ds vs) (q : FPost A ⟨Hb, H, fun _ => False⟩ E Q (runD N.length f ds W)) :
    rdS A ⟨Hb, H, fun _ => False⟩ E f { nx := fun _ H' => Q .non H', rt := Q } (L2.start N vs) H := by
  refine ⟨Hb, _, sr_start (N := N) h r, ?_⟩
  unfold runD at q
  cases e : f (startC N.length ds W) with
  | nx c =>
    rw [e] at q
    exact fun σ' Hb' H' _ s => q .non Hb' H' s.fin ((rep_non (A := A) (H := Hb')).mpr rfl)
  | ret fr d W' => rw [e] at q; exact q
  | exc x W' => rw [e] at q; exact q
  | brk c => rw [e] at q; exact False.elim q
  | cnt c => rw [e] at q; exact False.elim q
  | bad => rw [e] at q; exact False.elim q
section
variable {P : Program} {w : World} {K : PySem.W.Frag} {mg : Str → Option Value} {base : Heap} {A : Am}
/-- a def whose body is derived, whatever is around -/
theorem def_ok {x qual : Str} {st : Stmt} {f : Addr} {fd : FuncData} {N ps : List Str} {k n : Nat} {s : SF} (F : Fun K x qual st f fd) (S : FnScope N ps (defScope st)) (hn : ps.length = n)
    (hbody : ∀ (cdv : Value) (Ar : Around) (outer : List Env) (sh : Shared) (H Hb : Hp) (E : XK), Room k (Ar.deeper (envOfC qual (defScope st) sh.heap.objs.size f cdv)) →
      DSs (cxOf (L2.CX P w) P w K mg base N qual (defScope st) f cdv Ar outer sh H E) A ⟨Hb, H, fun _ => False⟩ E (defBody st) s) : FnOk P w K mg base (L2.CX P w) (k + 1) f fd ps (spD A n (runD N.length s)) :=
  F.okX S (fun vs H Q E h => by rw [hn]; exact h.1) fun cdv Ar outer sh H vs Q E hr h => by
    obtain ⟨hl, Hb, ds, W, h1, h2, h3⟩ := h
    exact ⟨_, hbody cdv Ar outer sh H Hb E hr, rd_start h1 h2 h3⟩
/-- .. where nothing is being shown -/
theorem def_okG {x qual : Str} {st : Stmt} {f : Addr} {fd : FuncData} {N ps : List Str} {k n : Nat} {s : SF} (F : Fun K x qual st f fd) (S : FnScope N ps (defScope st)) (hn : ps.length = n)
    (hbody : ∀ (cdv : Value) (Ar : Around) (outer : List Env) (sh : Shared) (H Hb : Hp) (E : XK), Room k (Ar.deeper (envOfC qual (defScope st) sh.heap.objs.size f cdv)) → Ar.guards = some [] →
      DSs (cxOf (L2.CX P w) P w K mg base N qual (defScope st) f cdv Ar outer sh H E) A ⟨Hb, H, fun _ => False⟩ E (defBody st) s) : FnG P w K mg base (k + 1) f fd ps (spD A n (runD N.length s)) := by
  refine ⟨fun vs H Q E h => by rw [hn]; exact h.1, fun Ar outer sh H args us vs Q E hr hg e0 hb r h => ?_⟩
  obtain ⟨oc, od, kV, doc, pm, an, cdv, ct, osl, rfl, lk, hcd⟩ := F.ex
  obtain ⟨hl, Hb, ds, W, h1, h2, h3⟩ := h
  exact LamX.run_ofS lk hcd S hr e0 hb r (by rw [hn]; exact hl) fun hr' => ⟨_, hbody cdv Ar outer sh H Hb E hr' hg, rd_start h1 h2 h3⟩
/-- the function told otherwise -/
theorem spD_congr {n : Nat} {F G : FF} (h : ∀ ds W, ds.length = n → F ds W = G ds W) : ∀ vs H Q E, spD A n G vs H Q E → spD A n F vs H Q E := fun vs H Q E ⟨hl, Hb, ds, W, h1, h2, h3⟩ => ⟨hl, Hb, ds, W, h1, h2, by rw [h ds W (by rw [h2.len]; exact hl)]; exact h3⟩
end
end DL
namespace DL
open PySem PySem.Spec PyProof.Rows L2

/-! ### list comprehensions -/
def wipeR (r : List (Option (Bool × D))) : List Nat → List (Option (Bool × D))
  | [] => r
  | v :: vs => (wipeR r vs).set v none
def Cfg.wipe (c : Cfg) (vs : List Nat) : Cfg := { c with r := wipeR c.r vs }
def shOf : Option (Bool × D) → Option (Bool × D)
  | some (false, d) => some (false, d)
  | _ => none
theorem shOf_some {a : Option (Bool × D)} {u : Bool × D} (h : shOf a = some u) : a = some u ∧ u.1 = false := by
  unfold shOf at h
  split at h
  · cases h; exact ⟨rfl, rfl⟩
  · cases h
def mrgFrom (vs : List Nat) : Nat → List (Option (Bool × D)) → List (Option (Bool × D)) → List (Option (Bool × D))
  | k, a :: r0, b :: r1 => (if vs.contains k then shOf a else b) :: mrgFrom vs (k + 1) r0 r1
  | _, _, _ => []
def Cfg.mrg (vs : List Nat) (c0 c1 : Cfg) : Cfg := ⟨mrgFrom vs 0 c0.r c1.r, c1.W⟩
inductive LR where
  | ok (ds : List D) (c : Cfg) | bad
def goLc (tgt : D → Cfg → Option Cfg) (vs : List Nat) (ft fe : EF) : List D → List D → Cfg → LR
  | [], acc, c => .ok acc c
  | d :: ds, acc, c => match tgt d (c.wipe vs) with
    | none => .bad
    | some c1 => match ft c1 with
      | .ok _ (.bl false) c2 => goLc tgt vs ft fe ds acc (Cfg.mrg vs c c2)
      | .ok _ (.bl true) c2 => match fe c2 with
        | .ok .bo _ _ => .bad
        | .ok _ d' c3 => if acc.length < big then goLc tgt vs ft fe ds (acc ++ [d']) (Cfg.mrg vs c c3) else .bad
        | _ => .bad
      | _ => .bad
def LR.toE : LR → ER
  | .ok acc c => .ok .fr (.lst acc) c
  | .bad => .bad
def evLc (it : AF) (tgt : D → Cfg → Option Cfg) (vs : List Nat) (ft fe : EF) : EF := fun c => match it c with
  | .ok ds c1 => (goLc tgt vs ft fe ds [] c1).toE
  | .exc x W => .exc x W
  | .bad => .bad
theorem wipe_len (σ : List (Option V)) : ∀ vs : List Nat, (wipe σ vs).length = σ.length
  | [] => rfl
  | v :: vs => by
    show ((wipe σ vs).set v none).length = _
    rw [List.length_set, wipe_len σ vs]
theorem wipe_out {σ : List (Option V)} {i : Nat} : ∀ {vs : List Nat}, i ∉ vs → (wipe σ vs)[i]? = σ[i]?
  | [], _ => rfl
  | v :: vs, h => by
    show ((wipe σ vs).set v none)[i]? = _
    rw [List.getElem?_set_ne (fun z => h (by rw [z]; exact List.mem_cons_self))]
    exact wipe_out fun z => h (List.mem_cons_of_mem _ z)
theorem wipe_in {σ : List (Option V)} {i : Nat} : ∀ {vs : List Nat}, i ∈ vs → i < σ.length → (wipe σ vs)[i]? = some none
  | [], h, _ => absurd h List.not_mem_nil
  | v :: vs, h, hl => by
    show ((wipe σ vs).set v none)[i]? = _
    by_cases e : v = i
    · subst e
      exact List.getElem?_set_self (by rw [wipe_len]; exact hl)
    · rw [List.getElem?_set_ne e]
      rcases List.mem_cons.mp h with z | z
      · exact absurd z.symm e
      · exact wipe_in z hl
theorem wipeR_len (r : List (Option (Bool × D))) : ∀ vs : List Nat, (wipeR r vs).length = r.length
  | [] => rfl
  | v :: vs => by
    show ((wipeR r vs).set v none).length = _
    rw [List.length_set, wipeR_len r vs]
theorem wipeR_some {r : List (Option (Bool × D))} {i : Nat} {u : Bool × D} : ∀ {vs : List Nat}, (wipeR r vs)[i]? = some (some u) → r[i]? = some (some u) ∧ i ∉ vs
  | [], h => ⟨h, List.not_mem_nil⟩
  | v :: vs, h => by
    replace h : ((wipeR r vs).set v none)[i]? = some (some u) := h
    by_cases e : v = i
    · subst e
      have hl : v < (wipeR r vs).length := by
        cases Nat.lt_or_ge v (wipeR r vs).length with
        | inl q => exact q
        | inr q =>
          rw [List.getElem?_eq_none (by simpa using q)] at h
          cases h
      rw [List.getElem?_set_self hl] at h
      cases h
    · rw [List.getElem?_set_ne e] at h
      obtain ⟨h1, h2⟩ := wipeR_some h
      exact ⟨h1, fun z => by
        rcases List.mem_cons.mp z with z | z
        · exact e z.symm
        · exact h2 z⟩
theorem mrg_len (vs : List Nat) : ∀ (k : Nat) (r0 r1 : List (Option (Bool × D))), r0.length = r1.length → (mrgFrom vs k r0 r1).length = r1.length
  | k, [], [], _ => rfl
  | k, a :: r0, b :: r1, h => by
    show (mrgFrom vs (k + 1) r0 r1).length + 1 = r1.length + 1
    rw [mrg_len vs (k + 1) r0 r1 (by simpa using h)]
  | k, [], b :: r1, h => by simp at h
  | k, a :: r0, [], h => by simp at h
theorem mrg_get {vs : List Nat} {u : Bool × D} : ∀ {k : Nat} {r0 r1 : List (Option (Bool × D))} {i : Nat}, (mrgFrom vs k r0 r1)[i]? = some (some u) → (k + i ∉ vs ∧ r1[i]? = some (some u)) ∨ (k + i ∈ vs ∧ r0[i]? = some (some u) ∧ u.1 = false)
  | k, [], r1, i, h => by unfold mrgFrom at h; simp at h
  | k, a :: r0, [], i, h => by unfold mrgFrom at h; simp at h
  | k, a :: r0, b :: r1, 0, h => by
    replace h : some (if vs.contains k then shOf a else b) = some (some u) := h
    by_cases hk : vs.contains k = true
    · rw [if_pos hk] at h
      obtain ⟨e1, e2⟩ := shOf_some (Option.some.inj h)
      exact .inr ⟨by simpa using hk, by rw [e1]; rfl, e2⟩
    · rw [if_neg hk] at h
      exact .inl ⟨by simpa using hk, h⟩
  | k, a :: r0, b :: r1, i + 1, h => by
    replace h : (mrgFrom vs (k + 1) r0 r1)[i]? = some (some u) := h
    rcases mrg_get h with ⟨h1, h2⟩ | ⟨h1, h2, h3⟩
    · exact .inl ⟨by rw [show k + (i + 1) = k + 1 + i by omega]; exact h1, h2⟩
    · exact .inr ⟨by rw [show k + (i + 1) = k + 1 + i by omega]; exact h1, h2, h3⟩
def Bs.prot (B : Bs) (P : Addr) : Bs := { B with pr := fun p => B.pr p ∨ p = P }
section
variable {X : Cx} {A : Am} {B : Bs} {E : XK} {Hb H Hb1 H1 : Hp} {σ : List (Option V)} {c c1 : Cfg} {fa fb fc ft fe : EF} {f g : SF} {De : Ends} {ga gb : AF}
theorem Sr.wiped (vs : List Nat) (s : Sr A B Hb H σ c) : Sr A B Hb H (wipe σ vs) (c.wipe vs) := by
  refine ⟨s.fin, by show (wipeR c.r vs).length = _; rw [wipeR_len, wipe_len, s.len], fun i d h => ?_, fun i d h => ?_, fun i j di dj a hi hj e1 e2 => ?_, fun p h => ?_⟩
  · obtain ⟨h1, h2⟩ := wipeR_some h
    obtain ⟨v, g1, g2⟩ := s.sh i d h1
    exact ⟨v, by rw [wipe_out h2]; exact g1, g2⟩
  · obtain ⟨h1, h2⟩ := wipeR_some h
    obtain ⟨a, o, g1, g2⟩ := s.ow i d h1
    exact ⟨a, o, by rw [wipe_out h2]; exact g1, g2⟩
  · obtain ⟨h1, h2⟩ := wipeR_some hi
    obtain ⟨h3, h4⟩ := wipeR_some hj
    rw [wipe_out h2] at e1
    rw [wipe_out h4] at e2
    exact s.sep i j di dj a h1 h3 e1 e2
  · obtain ⟨g1, g2, g3⟩ := s.pr p h
    refine ⟨g1, g2, fun i d hi z => ?_⟩
    obtain ⟨h1, h2⟩ := wipeR_some hi
    rw [wipe_out h2] at z
    exact g3 i d h1 z
/-- out of the block again -/
theorem Sr.back {vs : List Nat} {σ2 : List (Option V)} {c2 : Cfg} (s : Sr A B Hb H σ c) (e : Same Hb Hb1) (s2 : Sr A B Hb1 H1 σ2 c2) (k : ∀ i : Nat, i ∉ vs → σ2[i]? = σ[i]?) (hl : σ2.length = σ.length) : Sr A B Hb1 H1 σ (Cfg.mrg vs c c2) := by
  have l2 : c.r.length = c2.r.length := by rw [s.len, s2.len, hl]
  refine ⟨s2.fin, by show (mrgFrom vs 0 c.r c2.r).length = _; rw [mrg_len vs 0 _ _ l2, s2.len, hl], fun i d h => ?_, fun i d h => ?_, fun i j di dj a hi hj e1 e2 => ?_, fun p h => ?_⟩
  · rcases mrg_get h with ⟨h1, h2⟩ | ⟨h1, h2, _⟩
    · rw [Nat.zero_add] at h1
      obtain ⟨v, g1, g2⟩ := s2.sh i d h2
      exact ⟨v, by rw [← k i h1]; exact g1, g2⟩
    · obtain ⟨v, g1, g2⟩ := s.sh i d h2
      exact ⟨v, g1, Rep.mono e _ _ g2⟩
  · rcases mrg_get h with ⟨h1, h2⟩ | ⟨h1, h2, h3⟩
    · rw [Nat.zero_add] at h1
      obtain ⟨a, o, g1, g2⟩ := s2.ow i d h2
      exact ⟨a, o, by rw [← k i h1]; exact g1, g2⟩
    · cases h3
  · rcases mrg_get hi with ⟨h1, h2⟩ | ⟨h1, h2, h3⟩
    · rcases mrg_get hj with ⟨h4, h5⟩ | ⟨h4, h5, h6⟩
      · rw [Nat.zero_add] at h1 h4
        rw [← k i h1] at e1
        rw [← k j h4] at e2
        exact s2.sep i j di dj a h2 h5 e1 e2
      · cases h6
    · cases h3
  · obtain ⟨g1, g2, g3⟩ := s2.pr p h
    refine ⟨g1, g2, fun i d hi z => ?_⟩
    rcases mrg_get hi with ⟨h1, h2⟩ | ⟨h1, h2, h3⟩
    · rw [Nat.zero_add] at h1
      rw [← k i h1] at z
      exact g3 i d h2 z
    · cases h3
/-- the list that a comprehension makes, grown -/
theorem Sr.grow {P : Addr} {xs ys : List V} (s : Sr A (B.prot P) Hb H σ c) (hP : H P = some (.lst xs)) (hn : ¬ A.dl P) (h0 : B.h0 P = none) : Sr A (B.prot P) Hb (upd H P (.lst ys)) σ c := by
  obtain ⟨_, hb, no⟩ := s.pr P (.inr rfl)
  refine ⟨⟨⟨fun p u e => ?_, s.fin.hr.notb, fun w e => ?_, tabs_upd s.fin.hr.tabs hP⟩, s.fin.b0, ⟨fun p u e => ?_, fun p u e n t => ?_⟩, s.fin.nb⟩, s.len, s.sh, fun i d h => ?_, s.sep, fun p h => ?_⟩
  · rw [upd_ne (ne_of_none e hb)]
    exact s.fin.hr.same p u e
  · obtain ⟨w1, w2, w3, w4, w5⟩ := s.fin.hr.w w e
    have n1 : w.1 ≠ P := fun z => hn ⟨w, e, .inl z.symm⟩
    have n2 : w.2 ≠ P := fun z => hn ⟨w, e, .inr z.symm⟩
    exact ⟨by rw [upd_ne n1]; exact w1, by rw [upd_ne n2]; exact w2, w3, w4, w5⟩
  · by_cases hp : p = P
    · subst hp; exact ⟨_, upd_same⟩
    · rw [upd_ne hp]; exact s.fin.kp.it p u e
  · have : p ≠ P := ne_of_none e h0
    rw [upd_ne this]
    exact s.fin.kp.eq p u e n t
  · obtain ⟨a, o, g1, g2, g3⟩ := s.ow i d h
    have : a ≠ P := fun z => no i d h (by rw [g1, z])
    exact ⟨a, o, g1, by rw [upd_ne this]; exact g2, g3⟩
  · obtain ⟨⟨u, g1⟩, g2, g3⟩ := s.pr p h
    by_cases hp : p = P
    · subst hp; exact ⟨⟨_, upd_same⟩, g2, g3⟩
    · exact ⟨⟨u, by rw [upd_ne hp]; exact g1⟩, g2, g3⟩
theorem Sr.prot {P : Addr} {xs : List V} (s : Sr A B Hb H σ c) (hP : H P = none) : Sr A (B.prot P) Hb (upd H P (.lst xs)) σ c := by
  have s1 := s.new (o := .lst xs) hP
  refine ⟨⟨s1.fin.hr, s1.fin.b0, s1.fin.kp, s1.fin.nb⟩, s1.len, s1.sh, s1.ow, s1.sep, fun p h => ?_⟩
  rcases h with h | h
  · exact s1.pr p h
  · subst h
    refine ⟨⟨_, upd_same⟩, s.fin.hr.freshB hP, fun i d hi z => ?_⟩
    obtain ⟨a, o, g1, g2, _⟩ := s.ow i d hi
    rw [g1] at z
    cases z
    rw [hP] at g2
    cases g2
theorem Sr.unprot {P : Addr} (s : Sr A (B.prot P) Hb H σ c) : Sr A B Hb H σ c := ⟨⟨s.fin.hr, s.fin.b0, s.fin.kp, s.fin.nb⟩, s.len, s.sh, s.ow, s.sep, fun p h => s.pr p (.inl h)⟩
theorem Kept.updN {A : Am} {H H' : Hp} {p : Addr} {o : HO} (k : Kept A H H') (h : H p = none) : Kept A H (upd H' p o) := ⟨fun q u e => by
    rw [upd_ne (ne_of_none e h)]
    exact k.it q u e, fun q u e n t => by
    rw [upd_ne (ne_of_none e h)]
    exact k.eq q u e n t⟩
/-- the readings within a block: from any base -/
def rdEx (A : Am) (f : EF) : TE := fun σ H Q => ∃ B, rdE A B E0 f σ H Q
def rdTx (A : Am) (f : EF) : TT := fun σ H Q => ∃ B, rdT A B E0 f σ H Q
theorem pex {e : Expr} (h : ∀ B, DE X A B E0 e fe) : PE X e (rdEx A fe) := ⟨fun pins s σ H Q I ⟨B, q⟩ => (h B).run pins s σ H Q I q⟩
theorem ptsx {ifs : List Expr} (h : ∀ B, PTs X ifs (rdT A B E0 ft)) : PTs X ifs (rdTx A ft) := ⟨fun pins s σ H Q I ⟨B, q⟩ => (h B).run pins s σ H Q I q⟩
theorem PTs.imp {ifs : List Expr} {t t' : TT} (h : PTs X ifs t) (i : ∀ σ H Q, t' σ H Q → t σ H Q) : PTs X ifs t' := ⟨fun pins s σ H Q I q => h.run pins s σ H Q I (i σ H Q q)⟩
theorem dts_nil : PTs X [] (rdT A B E (evC (.bl true))) := PTs.imp pts_nil fun σ H Q ⟨Hb, c, s, q⟩ => by
  obtain ⟨b, e, g⟩ := q
  cases e
  exact g Hb H s .refl
theorem dts_one {e : Expr} (h : DT X A B E e ft) : PTs X [e] (rdT A B E ft) := pts_one h
theorem rd_lc {iter tg : Expr} {gt : TG} {tgt : D → Cfg → Option Cfg} {js vs : List Nat} {Q : VK} (hs : TgS A gt js tgt) (hj : ∀ j ∈ js, j ∈ vs) (s : Sr A B Hb H σ c) (q : EPost A B E Hb H σ Q (evLc ga tgt vs ft fe c)) :
    tLc (rdI A B E ga) gt (rdTx A ft) (rdEx A fe) vs σ H Q := by
  refine ⟨Hb, c, s, ?_⟩
  unfold evLc at q
  cases ei : ga c with
  | exc x W => rw [ei] at q; exact q
  | bad => rw [ei] at q; exact False.elim q
  | ok ds c1 =>
    rw [ei] at q
    intro J Hb0 H0 s0 t0 ok P hP
    have hn : ¬ A.dl P := s0.fin.hr.fresh hP
    have h0 : B.h0 P = none := s0.fin.h0n hP
    have np : ¬ B.pr P := fun z => by
      obtain ⟨⟨o, h1⟩, _⟩ := s0.pr P z
      rw [hP] at h1
      cases h1
    refine ⟨fun i m H' => ∃ (Hb' : Hp) (c' : Cfg) (acc : List D) (xs : List V), Same Hb0 Hb' ∧ Sr A (B.prot P) Hb' H' σ c' ∧ i + m = ds.length ∧ H' P = some (.lst xs) ∧ RepL A Hb' acc xs ∧ Kept A H0 H' ∧
      EPost A B E Hb H σ Q (goLc tgt vs ft fe (ds.drop i) acc c').toE, ⟨ds.length, Hb0, c1, [], [], Same.refl _, s0.prot hP, by omega, upd_same, RepL.nil, .of (same_upd hP), by simpa using q⟩, ?_⟩
    rintro i m H' ⟨Hb', c', acc, xs, e', s', hm, hx, hr, kp, q'⟩
    obtain ⟨k1, k2⟩ := ok i (B.prot P) Hb' H' σ c' e' s'
    by_cases hi : i < ds.length
    · have hd : ds[i]? = some ds[i] := List.getElem?_eq_getElem hi
      obtain ⟨g1, g2⟩ := k2 _ hd
      rw [List.drop_eq_getElem_cons hi] at q'
      refine .inr ⟨g1, fun H2 => ∃ (Hb2 : Hp) (c2 : Cfg) (acc : List D) (xs : List V), Same Hb0 Hb2 ∧ Sr A (B.prot P) Hb2 H2 σ c2 ∧ H2 P = some (.lst xs) ∧ RepL A Hb2 acc xs ∧ Kept A H0 H2 ∧ EPost A B E Hb H σ Q (goLc tgt vs ft fe (ds.drop (i + 1)) acc c2).toE, ?_, ?_⟩
      · rintro H2 ⟨Hb2, c2, acc2, xs2, e2, s2, x2, r2, kp2, q2⟩
        exact ⟨m - 1, by omega, Hb2, c2, acc2, xs2, e2, s2, by omega, x2, r2, kp2, q2⟩
      · intro x H2 hy
        obtain ⟨Hb2, e2, kp2, s2, r2⟩ := g2 x H2 hy
        unfold goLc at q'
        cases et : tgt ds[i] (c'.wipe vs) with
        | none => rw [et] at q'; exact False.elim q'
        | some c2 =>
          rw [et] at q'
          refine hs (B.prot P) Hb2 H2 (wipe σ vs) (c'.wipe vs) c2 _ x _ (s2.wiped vs) r2 et fun σ3 s3 k3 => ?_
          have l3 : σ3.length = σ.length := k3.1.trans (wipe_len σ vs)
          have k3' : ∀ i : Nat, i ∉ vs → σ3[i]? = σ[i]? := fun i hi => (k3.2 i fun z => hi (hj i z)).trans (wipe_out hi)
          refine ⟨?_, ?_⟩
          · apply List.ext_getElem?
            intro j
            by_cases hjv : j ∈ vs
            · by_cases hl : j < σ.length
              · rw [wipe_in hjv (by rw [l3]; exact hl), wipe_in hjv hl]
              · rw [List.getElem?_eq_none (by rw [wipe_len, l3]; omega), List.getElem?_eq_none (by rw [wipe_len]; omega)]
            · rw [wipe_out hjv, wipe_out hjv]
              exact k3' j hjv
          · replace q' : EPost A B E Hb H σ Q (LR.toE (match ft c2 with
              | .ok _ (.bl false) c2 => goLc tgt vs ft fe (ds.drop (i + 1)) acc (Cfg.mrg vs c' c2)
              | .ok _ (.bl true) c2 => match fe c2 with
                | .ok .bo _ _ => .bad
                | .ok _ d' c3 => if acc.length < big then goLc tgt vs ft fe (ds.drop (i + 1)) (acc ++ [d']) (Cfg.mrg vs c' c3) else .bad
                | _ => .bad
              | _ => .bad)) := q'
            refine ⟨B.prot P, Hb2, c2, s3, ?_⟩
            cases ef : ft c2 with
            | bad => rw [ef] at q'; exact q'.elim
            | exc x W => rw [ef] at q'; exact q'.elim
            | ok k d1 c3 =>
              rw [ef] at q'
              cases d1 with
              | bl b =>
                refine ⟨b, rfl, fun Hb3 H3 s4 t4 => ?_⟩
                cases b with
                | false =>
                  exact ⟨Hb3, Cfg.mrg vs c' c3, acc, xs, (e'.trans e2).trans t4.b, Sr.back s2 t4.b s4 k3' l3, t4.k.eq _ _ (kp2.eq _ _ hx hn (by intro _ z; cases z)) hn (by intro _ z; cases z), RepL.mono (e2.trans t4.b) _ _ hr, (kp.trans kp2).trans t4.k, q'⟩
                | true =>
                  replace q' : EPost A B E Hb H σ Q (LR.toE (match fe c3 with
                    | .ok .bo _ _ => .bad
                    | .ok _ d' c3 => if acc.length < big then goLc tgt vs ft fe (ds.drop (i + 1)) (acc ++ [d']) (Cfg.mrg vs c' c3) else .bad
                    | _ => .bad)) := q'
                  refine ⟨B.prot P, Hb3, c3, s4, ?_⟩
                  cases eg : fe c3 with
                  | bad => rw [eg] at q'; exact q'.elim
                  | exc x W => rw [eg] at q'; exact q'.elim
                  | ok k2 d2 c4 =>
                    rw [eg] at q'
                    have hk : k2 ≠ .bo := by intro z; rw [z] at q'; exact q'.elim
                    replace q' : EPost A B E Hb H σ Q (LR.toE (if acc.length < big then goLc tgt vs ft fe (ds.drop (i + 1)) (acc ++ [d2]) (Cfg.mrg vs c' c4) else .bad)) := by
                      cases k2 with
                      | bo => exact q'.elim
                      | st => exact q'
                      | fr => exact q'
                    by_cases hb : acc.length < big
                    · rw [if_pos hb] at q'
                      intro v Hb4 H4 s5 t5 k5
                      obtain ⟨Hb5, s6, e6, r6⟩ := RepK.keep s5 k5 hk
                      have eb : Same Hb2 Hb5 := (t4.b.trans t5.b).trans e6
                      have x4 : H4 P = some (.lst xs) := t5.k.eq _ _ (t4.k.eq _ _ (kp2.eq _ _ hx hn (by intro _ z; cases z)) hn (by intro _ z; cases z)) hn (by intro _ z; cases z)
                      have hP4 : Kept A H0 H4 := ((kp.trans kp2).trans t4.k).trans t5.k
                      exact ⟨xs, x4, by rw [← hr.len]; exact Nat.lt_of_lt_of_le hb (by decide), Hb5, Cfg.mrg vs c' c4, acc ++ [d2], xs ++ [v], (e'.trans e2).trans eb, (Sr.back s2 eb s6 k3' l3).grow x4 hn h0, upd_same, (RepL.mono (e2.trans eb) _ _ hr).append (RepL.cons r6 RepL.nil), hP4.updN hP, q'⟩
                    · rw [if_neg hb] at q'; exact q'.elim
              | _ => exact q'.elim
    · have : ds.drop i = [] := List.drop_eq_nil_of_le (by omega)
      rw [this] at q'
      refine .inl ⟨k1 (by omega), q' _ Hb' H' s'.unprot ⟨t0.b.trans e', t0.k.trans kp⟩ ⟨P, ⟨_, rfl, hx, ⟨xs, rfl, hr⟩, (s'.pr P (.inr rfl)).2.1, hn, h0, np⟩, (s'.pr P (.inr rfl)).2.2⟩⟩
end
end DL
namespace DL
open PySem PySem.Spec PyProof.Rows L2

/-! ### comprehensions: the rules -/
section
variable {X : Cx} {A : Am} {B : Bs} {E : XK} {Hb H Hb1 H1 : Hp} {σ : List (Option V)} {c c1 : Cfg} {fa fb fc ft fe : EF} {f g : SF} {De : Ends} {ga gb : AF}
theorem de_lc {elt tg iter : Expr} {ifs : List Expr} {scope : Scope} {own : List (Str × Nat)} {pos : Pos} {gt : TG} {js : List Nat} {tgt : D → Cfg → Option Cfg} (hc : X.calm = true) (hN : X.N.Nodup) (hi : DI X A B E tg iter ga) (ok : BlkOk X.N X.env.scope scope own)
    (hg : ∀ (s : Shared) (H : Hp) (C : Addr) (cl : List (Str × Addr)) (fp : List Addr), PG (X.blk s H scope (compEnvC scope cl C X.env) fp) tg gt) (hs : TgS A gt js tgt) (hj : (js.all fun j => (own.map (·.2)).contains j) = true)
    (ht : ∀ (s : Shared) (H : Hp) (C : Addr) (cl : List (Str × Addr)) (fp : List Addr) (B : Bs), PTs (X.blk s H scope (compEnvC scope cl C X.env) fp) ifs (rdT A B E0 ft))
    (he : ∀ (s : Shared) (H : Hp) (C : Addr) (cl : List (Str × Addr)) (fp : List Addr) (B : Bs), DE (X.blk s H scope (compEnvC scope cl C X.env) fp) A B E0 elt fe) (hz : ∀ x, foldedSetIterable iter X.env x = pure x := by intro _; rfl) :
    DE X A B E (.ListComp elt [⟨tg, iter, ifs, 0⟩] scope pos) (evLc ga tgt (own.map (·.2)) ft fe) :=
  PE.imp (pe_lc hc hN hi ok hg (fun s H C cl fp => ptsx (ht s H C cl fp)) (fun s H C cl fp => pex (he s H C cl fp)) hz) fun σ H Q ⟨Hb, c, s, q⟩ =>
    rd_lc (tg := tg) (iter := iter) hs (fun j h => by simpa using List.all_eq_true.mp hj j h) s q
theorem ds_setLc {i : Nat} {y : Str} {py : Pos} {elt tg iter : Expr} {ifs : List Expr} {scope : Scope} {own : List (Str × Nat)} {pos spos : Pos} {gt : TG} {js : List Nat} {tgt : D → Cfg → Option Cfg} (hc : X.calm = true) (hN : X.N.Nodup) (hy : X.N[i]? = some y) (hyl : X.env.scope.names.lookup y = some .local)
    (hsw : swapsWith (.ListComp elt [⟨tg, iter, ifs, 0⟩] scope pos) (some (.Name y py)) spos.line X.env = pure true) (hi : DI X A B E tg iter ga) (ok : BlkOk X.N X.env.scope scope own)
    (hg : ∀ (s : Shared) (H : Hp) (C : Addr) (cl : List (Str × Addr)) (fp : List Addr), PG (X.blk s H scope (compEnvC scope cl C X.env) fp) tg gt) (hs : TgS A gt js tgt) (hj : (js.all fun j => (own.map (·.2)).contains j) = true)
    (ht : ∀ (s : Shared) (H : Hp) (C : Addr) (cl : List (Str × Addr)) (fp : List Addr) (B : Bs), PTs (X.blk s H scope (compEnvC scope cl C X.env) fp) ifs (rdT A B E0 ft))
    (he : ∀ (s : Shared) (H : Hp) (C : Addr) (cl : List (Str × Addr)) (fp : List Addr) (B : Bs), DE (X.blk s H scope (compEnvC scope cl C X.env) fp) A B E0 elt fe) (hz : ∀ x, foldedSetIterable iter X.env x = pure x := by intro _; rfl) :
    DS X A B E (.Assign [.Name y py] (.ListComp elt [⟨tg, iter, ifs, 0⟩] scope pos) spos) (sSet i (evLc ga tgt (own.map (·.2)) ft fe)) :=
  ds_set (PS.imp (ps_setLc hc hN hy hyl hsw hi ok hg (fun s H C cl fp => ptsx (ht s H C cl fp)) (fun s H C cl fp => pex (he s H C cl fp)) (hs := hz)) fun D σ H q => by
    obtain ⟨Hb, c, s, q⟩ := q
    exact rd_lc (tg := tg) (iter := iter) hs (fun j h => by simpa using List.all_eq_true.mp hj j h) s q)
/-! ### targets: a list opened -/
def tgUnl (n : Nat) (g : List D → Cfg → Option Cfg) : D → Cfg → Option Cfg
  | .lst ds, c => if ds.length = n then g ds c else none
  | _, _ => none
theorem tgs_unl {K : PySem.W.Frag} {t : TGs} {js : List Nat} {n : Nat} {g : List D → Cfg → Option Cfg} (h : TgsS A t js g) : TgS A (gUnl K n t) js (tgUnl n g) := fun B Hb H σ c c' d v Q s r e q => by
  cases d with
  | lst ds =>
    replace e : (if ds.length = n then g ds c else none) = some c' := e
    by_cases hl : ds.length = n
    · rw [if_pos hl] at e
      obtain ⟨a, xs, rfl, g1, g2⟩ := rep_lst.mp r
      exact ⟨a, xs, rfl, SqL.of (s.same _ _ g1), by rw [← g2.len]; exact hl, h B Hb H σ c c' ds xs Q s g2 e q⟩
    · rw [if_neg hl] at e; cases e
  | _ => cases e
/-! ### enumerate -/
def enumD : Nat → List D → List D
  | _, [] => []
  | k, d :: ds => .tup [.int (k : Nat), d] :: enumD (k + 1) ds
theorem enumD_len : ∀ (k : Nat) (ds : List D), (enumD k ds).length = ds.length
  | _, [] => rfl
  | k, d :: ds => by
    show (enumD (k + 1) ds).length + 1 = _
    rw [enumD_len (k + 1) ds]
    rfl
theorem enumD_get : ∀ {k i : Nat} {ds : List D} {e : D}, (enumD k ds)[i]? = some e → ∃ d, ds[i]? = some d ∧ e = .tup [.int ((k + i : Nat) : Int), d]
  | k, i, [], e, h => by
    unfold enumD at h
    simp at h
  | k, 0, d :: ds, e, h => by
    replace h : some (D.tup [.int (k : Nat), d]) = some e := h
    exact ⟨d, rfl, (Option.some.inj h).symm⟩
  | k, i + 1, d :: ds, e, h => by
    replace h : (enumD (k + 1) ds)[i]? = some e := h
    obtain ⟨d', h1, h2⟩ := enumD_get h
    refine ⟨d', h1, ?_⟩
    rw [h2, show k + 1 + i = k + (i + 1) by omega]
/-- what a turn of enumerate over the tuple at a gives -/
def IteT (a : Addr) : It :=
  ⟨fun i H => ∃ (xs : List V) (x : V), H a = some (.tup xs) ∧ xs[i]? = some x,
   fun i H v H' => ∃ (T : Addr) (x : V), v = .ref T ∧ H T = none ∧ H' = upd H T (.tup [.int (i : Nat), x]) ∧ ∀ xs : List V, H a = some (.tup xs) → xs[i]? = some x,
   fun i H => ∃ xs : List V, H a = some (.tup xs) ∧ i = xs.length⟩
/-- where it stands between the turns -/
def EnSt (e it a i : Nat) (h : Heap) : Prop := (∃ old, IsEnum h e it ((i : Nat) : Int) old) ∧ h.IsTupleIter it a i ∧ e ≠ it
theorem turn_enT {P : Program} {w : World} {K : PySem.W.Frag} {elts : List Expr} {kk : Nat} {tpos : Pos} (a e it : Addr) : Turn P w K (.Tuple elts kk tpos) (IteT a) [e, it] e (EnSt e it a) := by
  refine { mem := List.mem_cons_self, obj := ?_, keep := ?_, item := ?_, done := ?_, self := ?_ }
  · rintro i h ⟨⟨old, he⟩, ⟨o, ho, hc, hd⟩, _⟩ b hb
    rcases List.mem_cons.mp hb with z | z
    · subst z
      exact ⟨_, he, fun v q => nomatch q⟩
    · have z := List.mem_singleton.mp z
      subst z
      exact ⟨o, ho, fun v q => by rw [hd] at q; cases q⟩
  · rintro i h h' ⟨⟨old, he⟩, hi, hn⟩ k
    exact ⟨⟨old, k e List.mem_cons_self _ he⟩, hi.at fun o q => k it (List.mem_cons_of_mem _ List.mem_cons_self) o q, hn⟩
  · rintro X rfl rfl rfl hc i pins s σ H E I hf ⟨⟨old, he⟩, hit, hn⟩ ⟨xs, x, ha, hx⟩
    obtain ⟨hsz0, its, rv, ht⟩ := I.hok a _ ha
    obtain ⟨u, hu, ru⟩ := rv.get hx
    have fe := hf e List.mem_cons_self
    have fi := hf it (List.mem_cons_of_mem _ List.mem_cons_self)
    have nae : e ≠ a := fun z => by have := fe.1; rw [z, ha] at this; cases this
    have nai : a ≠ it := fun z => by have := fi.1; rw [← z, ha] at this; cases this
    have hel : e < s.heap.objs.size := Heap.lt_size he
    have hil : it < s.heap.objs.size := by
      obtain ⟨_, q, _⟩ := hit
      exact Heap.lt_size q
    have hlt : i < its.toArray.size := by
      rw [List.size_toArray]
      exact (List.getElem?_eq_some_iff.mp hu).1
    have ht' : s.heap.IsTuple a its.toArray := ht
    refine wpAny_pyNext_enum_itemD (A := X.A) (Draws.tuple (prog := X.prog) (w := X.w) (A := X.A.in1) (I.ok.hd hc) it a nai its.toArray) he ⟨hit, ht'⟩ hlt hn (fun z => by
      rcases List.mem_cons.mp z with z | z
      · exact hn z
      · exact nae (List.mem_singleton.mp z)) fun y h' tk hy ho hst hT hsz hk => ?_
    have ey : y = u := by
      rw [show its.toArray[i]? = some u by simpa using hu] at hy
      exact (Option.some.inj hy).symm
    subst ey
    refine ⟨_, rfl, wpAny_letOwnedTupleGo_enum (s := { s with heap := h', toks := tk + 1 }) ho fun h2 he2 sb => ?_⟩
    have hT2 : h2.get? s.heap.objs.size = some { cls := .type "tuple", data := .seq #[.int i tk, y] } := (sb.2 _ (Nat.ne_of_gt hel)).trans hT
    have new : ObjOk X.prog X.w (upd H s.heap.objs.size (.tup [.int (i : Nat), x])) h2 s.heap.objs.size (.tup [.int (i : Nat), x]) :=
      ⟨by show 2 ≤ sizeLine; decide, [.int i tk, y], .cons ⟨_, rfl⟩ (.cons ru .nil), ⟨_, hT2, rfl, _, rfl⟩⟩
    have I2 : Inv X pins σ (upd H s.heap.objs.size (.tup [.int (i : Nat), x])) { s with heap := h2, toks := tk + 1 } :=
      I.turnedNew (ch := [e, it]) (fun b ob hb q => (sb.2 b (fun z => hb (by rw [z]; exact List.mem_cons_self))).trans (hk b ob (fun z => hb (by rw [z]; exact List.mem_cons_self)) (fun z => hb (by rw [z]; exact List.mem_cons_of_mem _ List.mem_cons_self)) q)) hf (Nat.le_refl _) new
    refine ⟨.ref s.heap.objs.size, _, I2, rfl, ⟨_, x, rfl, I.hok.fresh (Nat.le_refl _), rfl, fun ys hy => by rw [ha] at hy; cases hy; exact hx⟩, ⟨⟨y, ?_⟩, ?_, hn⟩, fun b hb => ?_⟩
    · rw [show ((i + 1 : Nat) : Int) = (i : Int) + 1 by omega]
      exact he2
    · exact hst.1.at fun o q => (sb.2 it (Ne.symm hn)).trans q
    · have hb' : b < s.heap.objs.size := by
        rcases List.mem_cons.mp hb with z | z
        · rw [z]; exact hel
        · rw [List.mem_singleton.mp z]; exact hil
      rw [upd_ne (Nat.ne_of_lt hb')]
      exact (hf b hb).1
  · rintro X rfl rfl rfl hc i pins s σ H E I hf ⟨⟨old, he⟩, hit, hn⟩ ⟨xs, ha, hx⟩
    obtain ⟨hsz0, its, rv, ht⟩ := I.hok a _ ha
    obtain ⟨f0, f1, f2, f3, f4, f5⟩ := hf it (List.mem_cons_of_mem _ List.mem_cons_self)
    have nai : a ≠ it := fun z => by rw [← z, ha] at f0; cases f0
    have ht' : s.heap.IsTuple a its.toArray := ht
    have hsz : i = its.toArray.size := by rw [List.size_toArray, hx]; exact rv.length
    refine wpAny_pyNext_enum_endD (A := X.A) (Draws.tuple (prog := X.prog) (w := X.w) (A := X.A.in1) (I.ok.hd hc) it a nai its.toArray) he (by rw [← hsz]; exact ⟨hit, ht'⟩) fun h' eb => ⟨rfl, I.turned (t' := s.toks) (fun b o hb q => eb b o hb q) f0 f1 f3 f4 f5⟩
  · rintro Ar i s Q E ⟨⟨_, he⟩, _⟩ h
    exact wpAny_pyIter_enum he h
end
end DL
namespace PySem
open Sem (wp)
open AutoSeq1 (wpAny_loadPart')
/-- enumerate of one thing whose iterator is told -/
theorem mk_en1 {v : Value} {o : Obj} {H : Heap → Prop} (B : Begins v o H) :
    Meets (Builtin.«enumerate.__new__» ⟨[.type "enumerate", v], []⟩) (fun _ R s => H s.heap ∧
      R (.ok (.ret (.ref (s.heap.push o).objs.size))) { s with heap := (s.heap.push o).push { cls := .type "enumerate", data := .fields #[.none, .bool false, .ref s.heap.objs.size, rawInt 0, .none, .none] } }) := by
  refine .of_wp fun prog w A R s h => ?_
  obtain ⟨hp, gn, dr, tk, os⟩ := s
  obtain ⟨h1, h2⟩ := h
  have hsub := sub_enumerate
  have it1 : ∀ {A' : Around} {E Q : Value → Shared → Prop}, Q (.ref hp.objs.size) ⟨hp.push o, gn, dr, tk, os⟩ → wpAny (model prog w) A' (pyIter v) Q E ⟨hp, gn, dr, tk, os⟩ := fun q => B.iter prog w _ _ ⟨hp, gn, dr, tk, os⟩ _ h1 q
  wp_walk using it1
  refine wpAny_stack_any fun st => wpAny_pure ?_
  split
  · rename_i c _ _ _ _ _
    cases (c == Value.type "enumerate") with
    | false =>
      wp_walk using it1
      exact ⟨_, rfl, h2⟩
    | true =>
      wp_walk using it1
      exact ⟨_, rfl, h2⟩
  · wp_walk using it1
    exact ⟨_, rfl, h2⟩
theorem call_en1 {prog : Program} {w : World} {A : Around} {E : Value → Shared → Prop} {s : Shared} {v : Value} {o : Obj} {H : Heap → Prop} {Q : Value → Shared → Prop} (B : Begins v o H) (h1 : H s.heap)
    (h : ∀ h', IsEnum h' (s.heap.objs.size + 1) s.heap.objs.size 0 .none → h'.get? s.heap.objs.size = some o → (∀ b u, s.heap.get? b = some u → h'.get? b = some u) → Q (.ref (s.heap.objs.size + 1)) { s with heap := h' }) :
    wpAny (model prog w) A (call (.type "enumerate") [v]) Q E s := by
  refine callType_new F.called_enumerate (by decide) (F.typeCall_enumerate_1 _) (F.newCall_enumerate_1 _) (fun obj => F.args_object_init_2 obj _) F.entry_enumerate_new (mk_en1 B) ⟨h1, ?_⟩
  have hz : (s.heap.push o).objs.size = s.heap.objs.size + 1 := Heap.size_push ..
  show _ ∧ _
  rw [hz]
  have he : IsEnum ((s.heap.push o).push { cls := .type "enumerate", data := .fields #[.none, .bool false, .ref s.heap.objs.size, rawInt 0, .none, .none] }) (s.heap.objs.size + 1) s.heap.objs.size 0 .none := by
    have z := Heap.get?_push_size (s.heap.push o) (o := { cls := .type "enumerate", data := .fields #[.none, .bool false, .ref s.heap.objs.size, rawInt 0, .none, .none] }) rfl
    rw [hz] at z
    exact z
  exact ⟨⟨_, he, rfl⟩, h _ he (Heap.get?_push_of_some _ (Heap.get?_push_size _ B.free)) fun b u x => Heap.get?_push_of_some _ (Heap.get?_push_of_some _ x)⟩
end PySem
namespace DL
open PySem PySem.Spec PyProof.Rows L2
section
variable {X : Cx} {A : Am} {B : Bs} {E : XK} {Hb H Hb1 H1 : Hp} {σ : List (Option V)} {c c1 : Cfg} {fa fb fc ft fe : EF} {f g : SF} {De : Ends} {ga gb : AF}
/-- enumerate over a tuple -/
def iEnT (ta : TA) : TI := fun σ H R => ta σ H fun vs H1 => ∃ (a : Addr) (xs : List V), vs = [.ref a] ∧ H1 a = some (.tup xs) ∧ R (IteT a) H1
theorem pi_enT {e : Expr} {ta : TA} {p pos tpos : Pos} {elts : List Expr} {kk : Nat} (hg : Gl X "enumerate") (hm : X.mg "enumerate" = none) (ha : PA X [e] ta) (hs : starEach [e] X.env = [(false, eval e X.env)] := by rfl) :
    PI X (.Tuple elts kk tpos) (.Call (.Name "enumerate" p) [e] [] pos) (iEnT ta) := by
  refine ⟨fun pins s σ H R I h => ?_⟩
  refine Call_ (ld_blt I hg hm boot_enumerate (PyProof.Rows.callWith_type1 (thn (ha.run pos pins s σ H _ I h) fun us s1 hh => ?_) hs rfl))
  obtain ⟨vs, H1, I1, r1, a, xs, ex, hq, q⟩ := hh
  subst ex
  obtain ⟨u, rfl, ru⟩ := r1.one
  obtain rfl : u = Value.ref a := ru
  obtain ⟨_, its, rv, ht⟩ := I1.hok a _ hq
  have ht' : s1.heap.IsTuple a its.toArray := ht
  refine call_en1 (begins_tuple a its.toArray) ht' fun h' he hit hk => wpAny_pyIter_enum he ?_
  have I2 : Inv X pins σ H1 { s1 with heap := h' } := I1.kept (t' := s1.toks) hk
  refine ⟨s1.heap.objs.size + 1, [s1.heap.objs.size + 1, s1.heap.objs.size], _, _, H1, rfl, I2, turn_enT a (s1.heap.objs.size + 1) s1.heap.objs.size, ⟨⟨.none, he⟩, ⟨_, hit, rfl, rfl⟩, Nat.succ_ne_self _⟩, fun b hb => ?_, q⟩
  have hle : s1.heap.objs.size ≤ b := by
    rcases List.mem_cons.mp hb with z | z
    · rw [z]; exact Nat.le_succ _
    · rw [List.mem_singleton.mp z]; exact Nat.le_refl _
  exact I1.fpOk hle (I1.hok.fresh hle)
theorem itok_enT {a : Addr} {xs : List V} {ds : List D} {Hb0 : Hp} (h : Hb0 a = some (.tup xs)) (r : RepL A Hb0 ds xs) : ItOk A (IteT a) Hb0 (enumD 0 ds) := fun i B Hb H σ c e s => by
  have hH : H a = some (.tup xs) := s.same _ _ (e _ _ h)
  refine ⟨fun hl => ⟨xs, hH, by rw [← r.len, hl, enumD_len]⟩, fun d hd => ?_⟩
  obtain ⟨d', hd', rfl⟩ := enumD_get hd
  obtain ⟨x, h1, h2⟩ := r.get hd'
  refine ⟨⟨xs, x, hH, h1⟩, fun y H' hy => ?_⟩
  obtain ⟨T, x', rfl, hT, rfl, g⟩ := hy
  have := g xs hH
  rw [h1] at this
  cases this
  rw [Nat.zero_add]
  obtain ⟨g1, g2, g3⟩ := s.newTup hT (RepL.cons (rep_int.mpr rfl) (RepL.cons (Rep.mono e _ _ h2) RepL.nil))
  exact ⟨_, g2.b, g2.k, g1, g3⟩
theorem itok_enL {K : PySem.W.Frag} {a : Addr} {xs : List V} {ds : List D} {Hb0 : Hp} (h : Hb0 a = some (.lst xs)) (r : RepL A Hb0 ds xs) : ItOk A (Ite K a) Hb0 (enumD 0 ds) := fun i B Hb H σ c e s => by
  have hH : H a = some (.lst xs) := s.same _ _ (e _ _ h)
  refine ⟨fun hl => ⟨xs, SqL.of hH, by rw [← r.len, hl, enumD_len]; exact Nat.le_refl _⟩, fun d hd => ?_⟩
  obtain ⟨d', hd', rfl⟩ := enumD_get hd
  obtain ⟨x, h1, h2⟩ := r.get hd'
  refine ⟨⟨xs, x, SqL.of hH, h1⟩, fun y H' hy => ?_⟩
  obtain ⟨T, x', rfl, hT, rfl, g⟩ := hy
  have := g xs (SqL.of hH)
  rw [h1] at this
  cases this
  rw [Nat.zero_add]
  obtain ⟨g1, g2, g3⟩ := s.newTup hT (RepL.cons (rep_int.mpr rfl) (RepL.cons (Rep.mono e _ _ h2) RepL.nil))
  exact ⟨_, g2.b, g2.k, g1, g3⟩
/-- enumerate(e) -/
def evEn (g : AF) : AF := fun c => match g c with
  | .ok [.lst ds] c1 => .ok (enumD 0 ds) c1
  | .ok [.tup ds] c1 => .ok (enumD 0 ds) c1
  | .ok _ _ => .bad
  | .exc x W => .exc x W
  | .bad => .bad
theorem di_en {e : Expr} {p pos tpos : Pos} {elts : List Expr} {kk : Nat} (hg : Gl X "enumerate") (hm : X.mg "enumerate" = none) (ha : DA X A B E [e] ga) (hs : starEach [e] X.env = [(false, eval e X.env)] := by rfl) :
    DI X A B E (.Tuple elts kk tpos) (.Call (.Name "enumerate" p) [e] [] pos) (evEn ga) :=
  PI.imp (PI.or (pi_enum hg hm ha hs) (pi_enT hg hm ha hs)) fun σ H R ⟨Hb, c, s, q⟩ => by
    unfold evEn at q
    cases ef : ga c with
    | exc x W =>
      rw [ef] at q
      refine .inl ⟨Hb, c, s, ?_⟩
      rw [ef]
      exact q
    | bad => rw [ef] at q; exact False.elim q
    | ok es c1 =>
      rw [ef] at q
      match es, q with
      | [.lst ds], q =>
        refine .inl ⟨Hb, c, s, ?_⟩
        rw [ef]
        intro vs Hb1 H1 s1 t1 k1
        obtain ⟨x, xs, rfl, hx, hr⟩ := repL_cons.mp k1
        rw [repL_nil.mp hr]
        obtain ⟨a, ys, rfl, h1, h2⟩ := rep_lst.mp hx
        exact ⟨a, ys, rfl, SqL.of (s1.same _ _ h1), q _ Hb1 H1 s1 t1 (itok_enL h1 h2)⟩
      | [.tup ds], q =>
        refine .inr ⟨Hb, c, s, ?_⟩
        rw [ef]
        intro vs Hb1 H1 s1 t1 k1
        obtain ⟨x, xs, rfl, hx, hr⟩ := repL_cons.mp k1
        rw [repL_nil.mp hr]
        obtain ⟨a, ys, rfl, h1, h2⟩ := rep_tup.mp hx
        exact ⟨a, ys, rfl, s1.same _ _ h1, q _ Hb1 H1 s1 t1 (itok_enT h1 h2)⟩
end
end DL
namespace DL
open PySem PySem.Spec PyProof.Rows L2
section
variable {X : Cx} {A : Am} {B : Bs} {E : XK} {Hb H Hb1 H1 : Hp} {σ : List (Option V)} {c c1 : Cfg} {fa fb fc ft fe : EF} {f g : SF} {De : Ends} {ga gb : AF}
/-! ### two names at once, either may be a list of the frame's own -/
theorem Fin.prot {W : Wd} (P : Addr) (f : Fin A B Hb H W) : Fin A (B.prot P) Hb H W := ⟨f.hr, f.b0, f.kp, f.nb⟩
theorem Fin.unprot {W : Wd} {P : Addr} (f : Fin A (B.prot P) Hb H W) : Fin A B Hb H W := ⟨f.hr, f.b0, f.kp, f.nb⟩
theorem ExcW.prot {x : XD} {W : Wd} (P : Addr) (h : ExcW A B E x W) : ExcW A (B.prot P) E x W := fun cls dd Hb' H' f e => h cls dd Hb' H' f.unprot e
theorem Sr.protO {a : Addr} {d : D} {v : V} (s : Sr A B Hb H σ c) (h : FrO A B Hb H d v a) (no : ∀ (i : Nat) (d' : D), c.r[i]? = some (some (true, d')) → σ[i]? ≠ some (some (V.ref a))) : Sr A (B.prot a) Hb H σ c := by
  obtain ⟨o, h1, h2, h3, h4, h5, h6, h7⟩ := h
  exact ⟨s.fin.prot a, s.len, s.sh, s.ow, s.sep, fun p hp => by
    rcases hp with hp | rfl
    · exact s.pr p hp
    · exact ⟨⟨o, h2⟩, h4, no⟩⟩
def rdEy (A : Am) (E : XK) (f : EF) : TE := fun σ H Q => ∃ B, rdE A B E f σ H Q
theorem pey {e : Expr} (h : ∀ B, DE X A B E e fe) : PE X e (rdEy A E fe) := ⟨fun pins s σ H Q I ⟨B, q⟩ => (h B).run pins s σ H Q I q⟩
def sParK (i j : Nat) (fa fb : EF) : SF := fun c => (fa c).toS fun k1 d1 c1 => (fb c1).toS fun k2 d2 c2 => (putK i k1 d1 c2).bind (putK j k2 d2)
theorem rd_par {i j : Nat} (hij : i ≠ j) (s : Sr A B Hb H σ c) (q : SPost A B E Hb De (sParK i j fa fb c)) : tPar i j (tCons (rdE A B E fa) (tCons (rdEy A E fb) tNil)) De σ H := by
  show rdE A B E fa σ H fun x H1 => rdEy A E fb σ H1 fun y H2 => ∃ v w, [x, y] = [v, w] ∧ De.nx ((σ.set i (some v)).set j (some w)) H2
  unfold sParK at q
  refine rs_then s q fun k1 d1 c1 v Hb1 H1 _ s1 t1 r1 q1 => ?_
  -- what the second brings, over any base B'
  have fin : ∀ (Hb2 H2 : Hp) (k2 : Kd) (d2 : D) (c2 : Cfg) (w : V), Sr A B Hb2 H2 σ c2 → RepK A B Hb2 H2 σ c2 k1 d1 v → RepK A B Hb2 H2 σ c2 k2 d2 w → (∀ a, k1 = .fr → k2 = .fr → v = .ref a → w ≠ .ref a) → SPost A B E Hb2 De ((putK i k1 d1 c2).bind (putK j k2 d2)) →
      De.nx ((σ.set i (some v)).set j (some w)) H2 := fun Hb2 H2 k2 d2 c2 w s2 ra rb ne q => by
    unfold putK at q
    by_cases hi : i < c2.r.length
    · rw [if_pos hi] at q
      cases k1 with
      | bo => exact q.elim
      | st =>
        have s3 := s2.setS hi ra
        refine s3.putK (i := j) (k := k2) (d := d2) ?_ q
        cases k2 with
        | st => exact rb
        | bo => exact rb
        | fr =>
          obtain ⟨a, g1, g2⟩ := rb
          refine ⟨a, g1, fun l d' hl z => ?_⟩
          rcases put_get hl with ⟨_, h⟩ | ⟨n, h⟩
          · cases h
          · rw [List.getElem?_set_ne (Ne.symm n)] at z
            exact g2 l d' h z
      | fr =>
        obtain ⟨a, g1, g2⟩ := ra
        have s3 := s2.setO hi g1 g2
        refine s3.putK (i := j) (k := k2) (d := d2) ?_ q
        cases k2 with
        | st => exact rb
        | bo => exact rb
        | fr =>
          obtain ⟨b, e1, e2⟩ := rb
          refine ⟨b, e1, fun l d' hl z => ?_⟩
          rcases put_get hl with ⟨h0, h⟩ | ⟨n, h⟩
          · subst h0
            have hs : l < σ.length := by rw [← s2.len]; exact hi
            rw [List.getElem?_set_self hs] at z
            obtain ⟨_, hv, _⟩ := g1
            obtain ⟨_, hw, _⟩ := e1
            exact ne a rfl rfl hv (by rw [hw, ← (Option.some.inj (Option.some.inj z)), hv])
          · rw [List.getElem?_set_ne (Ne.symm n)] at z
            exact e2 l d' h z
    · rw [if_neg hi] at q; exact q.elim
  cases k1 with
  | st =>
    exact ⟨B, rs_then s1 q1 fun k2 d2 c2 w Hb2 H2 _ s2 t2 r2 q2 => ⟨v, w, rfl, fin Hb2 H2 k2 d2 c2 w s2 (Rep.mono t2.b _ _ r1) r2 (fun a h => nomatch h) q2⟩⟩
  | bo =>
    exact ⟨B, rs_then s1 q1 fun k2 d2 c2 w Hb2 H2 _ s2 t2 r2 q2 => ⟨v, w, rfl, fin Hb2 H2 k2 d2 c2 w s2 (RepO.mono t2 r1) r2 (fun a h => nomatch h) q2⟩⟩
  | fr =>
    obtain ⟨a, h1, h2⟩ := r1
    have sp := s1.protO h1 h2
    refine ⟨B.prot a, Hb1, c1, sp, ?_⟩
    cases eb : fb c1 with
    | bad => rw [eb] at q1; exact q1
    | exc x W => rw [eb] at q1; exact ExcW.prot a q1
    | ok k2 d2 c2 =>
      rw [eb] at q1
      intro w Hb2 H2 s2 t2 r2
      obtain ⟨o, e1, e2, e3, e4, e5, e6, e7⟩ := h1
      obtain ⟨_, p2, p3⟩ := s2.pr a (.inr rfl)
      have ra : RepK A B Hb2 H2 σ c2 .fr d1 v := ⟨a, ⟨o, e1, t2.k.eq a o e2 e5 e3.notb, e3.mono t2.b, p2, e5, e6, e7⟩, p3⟩
      have rb : RepK A B Hb2 H2 σ c2 k2 d2 w := by
        cases k2 with
        | st => exact r2
        | bo => exact r2
        | fr =>
          obtain ⟨b, ⟨u, g1, g2, g3, g4, g5, g6, g7⟩, g8⟩ := r2
          exact ⟨b, ⟨u, g1, g2, g3, g4, g5, g6, fun z => g7 (.inl z)⟩, g8⟩
      refine ⟨v, w, rfl, fin Hb2 H2 k2 d2 c2 w s2.unprot ra rb (fun b _ hk hv hw => ?_) (q1.mono t2.b)⟩
      subst hk
      obtain ⟨b', ⟨u, g1, g2, g3, g4, g5, g6, g7⟩, g8⟩ := r2
      rw [e1] at hv
      cases hv
      rw [g1] at hw
      cases hw
      exact g7 (.inr rfl)
theorem ds_par {i j : Nat} {x y : Str} {a b : Expr} {px py pt : Pos} {kt k2 pt2} {pos : Pos} (hc : X.calm = true) (hN : X.N.Nodup) (hi : X.N[i]? = some x) (hj : X.N[j]? = some y) (hij : i ≠ j)
    (hx : X.env.scope.names.lookup x = some .local) (hy : X.env.scope.names.lookup y = some .local) (ha : DE X A B E a fa) (hb : ∀ B, DE X A B E b fb)
    (hw : swappedStores [.Tuple [.Name x px, .Name y py] kt pt] (.Tuple [a, b] k2 pt2) X.env = pure (some [x, y]))
    (hs : swapsWithSole [.Tuple [.Name x px, .Name y py] kt pt] (.Tuple [a, b] k2 pt2) pos.line X.env = pure false := by rfl)
    (h1 : starEach [a, b] X.env = (false, eval a X.env) :: starEach [b] X.env := by rfl) (h2 : starEach [b] X.env = (false, eval b X.env) :: starEach [] X.env := by rfl) :
    DS X A B E (.Assign [.Tuple [.Name x px, .Name y py] kt pt] (.Tuple [a, b] k2 pt2) pos) (sParK i j fa fb) :=
  PS.imp (ps_par hc hN hi hj hij hx hy (pa_cons ha (pa_cons (pey hb) pa_nil h2) h1) hw hs) fun D σ H ⟨Hb, c, s, q⟩ => rd_par hij s q
/-! ### isinstance -/
inductive Ty5 where
  | int | bool | list | tuple | str
def Ty5.nm : Ty5 → String
  | .int => "int" | .bool => "bool" | .list => "list" | .tuple => "tuple" | .str => "str"
def isT : Ty5 → D → Option Bool
  | t, .non => some false
  | t, .bl _ => some (match t with | .int => true | .bool => true | _ => false)
  | t, .int _ => some (match t with | .int => true | _ => false)
  | t, .str _ => some (match t with | .str => true | _ => false)
  | t, .tup _ => some (match t with | .tuple => true | _ => false)
  | t, .lst _ => some (match t with | .list => true | _ => false)
  | _, _ => none
def isTs : List Ty5 → D → Option Bool
  | [], d => some false
  | t :: ts, d => match isT t d with
    | some true => some true
    | some false => isTs ts d
    | none => none
theorem tyX_of {d : D} {v : V} {b : Bool} {t : Ty5} (f : Same Hb H) (r : RepO A Hb H d v) (h : isT t d = some b) : ∃ T, TyX X.K H v T ∧ ∀ u b', isT u d = some b' → PySem.W.kitOne X.K T (.type u.nm) = some b' := by
  cases d with
  | non =>
    refine ⟨_, .base (by rw [r.non]; exact .non), fun u b' h => ?_⟩
    cases u <;> (cases h; exact kit_ty (by decide +kernel))
  | bl x =>
    refine ⟨_, .base (by rw [r.bl]; exact .bl x), fun u b' h => ?_⟩
    cases u <;> (cases h; exact kit_ty (by decide +kernel))
  | int x =>
    refine ⟨_, .base (by rw [r.int]; exact .int x), fun u b' h => ?_⟩
    cases u <;> (cases h; exact kit_ty (by decide +kernel))
  | str x =>
    refine ⟨_, .base (by rw [r.str]; exact .str x), fun u b' h => ?_⟩
    cases u <;> (cases h; exact kit_ty (by decide +kernel))
  | tup x =>
    obtain ⟨a, xs, rfl, h1, h2⟩ := r.tup
    refine ⟨_, .base (.tup (f _ _ h1)), fun u b' h => ?_⟩
    cases u <;> (cases h; exact kit_ty (by decide +kernel))
  | lst x =>
    obtain ⟨a, xs, rfl, h1, h2⟩ := r.lst f
    refine ⟨_, .base (.lst h1), fun u b' h => ?_⟩
    cases u <;> (cases h; exact kit_ty (by decide +kernel))
  | obj C ns ds => cases h
  | deal => cases h
def gIsi (ts : List Ty5) (d : D) : Option (Kd × D) := (isTs ts d).map fun b => (.st, .bl b)
theorem de_isi1 {t : Ty5} {x : Str} {p pos q2 : Pos} {e : Expr} {u : Value} (hg : Gl X "isinstance") (hm : X.mg "isinstance" = none) (hg2 : Gl X x) (hm2 : X.mg x = none) (hv2 : bootBuiltins x = some (.type t.nm)) (ha : DE X A B E e fa)
    (hn : x ≠ "__name__" := by decide) (hdb : (x == ("__debug__" : Str)) = false := by decide)
    (he : starEach [e, .Name x q2] X.env = (false, eval e X.env) :: starEach [.Name x q2] X.env := by rfl) (hpl : (backTo pos (starEach [.Name x q2] X.env)).any (·.1) = false := by rfl) (he2 : starEach [.Name x q2] X.env = (false, eval (.Name x q2) X.env) :: starEach [] X.env := by rfl) :
    DE X A B E (.Call (.Name "isinstance" p) [e, .Name x q2] [] pos) (ev1 (gIsi [t]) fa) :=
  PE.imp (pe_callB call_isi hg hm (by with_unfolding_all rfl) (pa_cons ha (pa_cons (pe_bltn (v := .ty t.nm) hg2 hm2 hv2 rfl hn hdb) pa_nil he2) he) (by decide) (by decide) he hpl) fun σ H Q ⟨Hb, c, s, q⟩ => by
    show rdE A B E fa σ H fun v H1 => rIsi X.K [v, .ty t.nm] H1 Q
    refine rd_then s q fun k d c1 v Hb1 H1 _ s1 t1 r1 q1 => ?_
    have hh : ∃ b, isT t d = some b ∧ EPost A B E Hb1 H1 σ Q (.ok .st (.bl b) c1) := by
      unfold gIsi isTs at q1
      cases e : isT t d with
      | none => rw [e] at q1; exact q1.elim
      | some b =>
        rw [e] at q1
        cases b with
        | true => exact ⟨true, rfl, q1⟩
        | false => exact ⟨false, rfl, q1⟩
    obtain ⟨b, e1, q2⟩ := hh
    obtain ⟨T, h1, h2⟩ := tyX_of (X := X) s1.same r1.o e1
    exact ⟨v, _, T, _, b, rfl, .ty _, h1, h2 t b e1, q2 _ Hb1 H1 s1 .refl rk_bl⟩
theorem kitAnyT {d : D} {T : Value} : ∀ {ts : List Ty5} {b : Bool}, (∀ u b', isT u d = some b' → PySem.W.kitOne X.K T (.type u.nm) = some b') → isTs ts d = some b → PySem.W.kitAny X.K T (ts.map fun t => .type t.nm) = some b
  | [], b, _, h => by cases h; exact kitAny_nil
  | t :: ts, b, hk, h => by
    unfold isTs at h
    cases e : isT t d with
    | none => rw [e] at h; cases h
    | some z =>
      rw [e] at h
      cases z with
      | true =>
        cases h
        exact kitAny_cons (hk t true e) (fun z => nomatch z) fun _ => rfl
      | false => exact kitAny_cons (hk t false e) (fun _ => kitAnyT hk h) fun z => nomatch z
theorem de_isi2 {t1 t2 : Ty5} {x y : Str} {p pos q1 q2 q3 : Pos} {kt : Nat} {e : Expr} (hg : Gl X "isinstance") (hm : X.mg "isinstance" = none) (hg2 : Gl X x) (hm2 : X.mg x = none) (hv2 : bootBuiltins x = some (.type t1.nm)) (hg3 : Gl X y) (hm3 : X.mg y = none) (hv3 : bootBuiltins y = some (.type t2.nm)) (ha : DE X A B E e fa)
    (hn : x ≠ "__name__" := by decide) (hdb : (x == ("__debug__" : Str)) = false := by decide) (hn3 : y ≠ "__name__" := by decide) (hdb3 : (y == ("__debug__" : Str)) = false := by decide)
    (he : starEach [e, .Tuple [.Name x q1, .Name y q2] kt q3] X.env = (false, eval e X.env) :: starEach [.Tuple [.Name x q1, .Name y q2] kt q3] X.env := by rfl) (hpl : (backTo pos (starEach [.Tuple [.Name x q1, .Name y q2] kt q3] X.env)).any (·.1) = false := by rfl)
    (he2 : starEach [.Tuple [.Name x q1, .Name y q2] kt q3] X.env = (false, eval (.Tuple [.Name x q1, .Name y q2] kt q3) X.env) :: starEach [] X.env := by rfl)
    (he3 : starEach [.Name x q1, .Name y q2] X.env = (false, eval (.Name x q1) X.env) :: starEach [.Name y q2] X.env := by rfl) (he4 : starEach [.Name y q2] X.env = (false, eval (.Name y q2) X.env) :: starEach [] X.env := by rfl) :
    DE X A B E (.Call (.Name "isinstance" p) [e, .Tuple [.Name x q1, .Name y q2] kt q3] [] pos) (ev1 (gIsi [t1, t2]) fa) :=
  PE.imp (pe_callB call_isiT hg hm (by with_unfolding_all rfl) (pa_cons ha (pa_cons (pe_tup (pa_cons (pe_bltn (v := .ty t1.nm) hg2 hm2 hv2 rfl hn hdb) (pa_cons (pe_bltn (v := .ty t2.nm) hg3 hm3 hv3 rfl hn3 hdb3) pa_nil he4) he3)) pa_nil he2) he) (by decide) (by decide) he hpl) fun σ H Q ⟨Hb, c, s, q⟩ => by
    show rdE A B E fa σ H fun v H1 => ([V.ty t1.nm, .ty t2.nm] : List V).length ≤ sizeLine ∧ ∀ p, H1 p = none → rIsiT X.K [v, .ref p] (upd H1 p (.tup [.ty t1.nm, .ty t2.nm])) Q
    refine rd_then s q fun k d c1 v Hb1 H1 _ s1 tt r1 q1 => ⟨by rw [sizeLine_eq]; show 2 ≤ _; decide, fun p hp => ?_⟩
    have hh : ∃ b, isTs [t1, t2] d = some b ∧ EPost A B E Hb1 H1 σ Q (.ok .st (.bl b) c1) := by
      unfold gIsi at q1
      cases e : isTs [t1, t2] d with
      | none => rw [e] at q1; exact q1.elim
      | some b => rw [e] at q1; exact ⟨b, rfl, q1⟩
    obtain ⟨b, e1, q2⟩ := hh
    have hz : ∃ z, isT t1 d = some z := by
      unfold isTs at e1
      cases e : isT t1 d with
      | none => rw [e] at e1; cases e1
      | some z => exact ⟨z, rfl⟩
    obtain ⟨z, hz⟩ := hz
    have s2 := s1.new (o := .tup [.ty t1.nm, .ty t2.nm]) hp
    have st : Stp A Hb1 H1 Hb1 (upd H1 p (.tup [.ty t1.nm, .ty t2.nm])) := ⟨Same.refl _, .of (same_upd hp)⟩
    obtain ⟨T, h1, h2⟩ := tyX_of (X := X) s2.same (r1.o.mono st) hz
    exact ⟨v, p, _, T, _, b, rfl, upd_same, .cons (.ty _) (.cons (.ty _) .nil), h1, kitAnyT h2 e1, q2 _ _ _ s2 st rk_bl⟩
/-! ### pop -/
theorem RepL.erase : ∀ {ds : List D} {xs : List V} (n : Nat), RepL A H ds xs → RepL A H (ds.eraseIdx n) (xs.eraseIdx n)
  | [], xs, n, h => by rw [repL_nil.mp h]; exact RepL.nil
  | d :: ds, xs, 0, h => by
    obtain ⟨x, r, rfl, hx, t⟩ := repL_cons.mp h
    exact t
  | d :: ds, xs, n + 1, h => by
    obtain ⟨x, r, rfl, hx, t⟩ := repL_cons.mp h
    exact RepL.cons hx (RepL.erase n t)
theorem ixN_pop {n m : Nat} {i : Int} (h : (if n ≤ big then ixN n i else none) = some m) : -(2 ^ 63) ≤ i ∧ i < 2 ^ 63 ∧ seqIndex? i n = some m := by
  split at h
  · rename_i hn
    obtain ⟨h1, h2, h3, h4⟩ := ixN_seq h
    unfold big at hn
    exact ⟨by omega, by omega, h1⟩
  · cases h
/-- the item that pop(e) takes, and what stays -/
def popAt (j : Nat) (d : D) (c : Cfg) : Option (D × Cfg) := match d, ownL c j with
  | .int k, some ds => match (if ds.length ≤ big then ixN ds.length k else none) with
    | some m => match ds[m]? with
      | some e => some (e, c.put j (some (true, .lst (ds.eraseIdx m))))
      | none => none
    | none => none
  | _, _ => none
def sPopAt (j : Nat) (fe : EF) (K : D → Cfg → SR) : SF := fun c => if (ownL c j).isSome then (fe c).toS (fun _ d c1 => match popAt j d c1 with
  | some (e, c2) => K e c2
  | none => .bad) else .bad
theorem rd_popAt {j : Nat} {K : D → Cfg → SR} {Q : VK} (s : Sr A B Hb H σ c) (q : SPost A B E Hb De (sPopAt j fa K c))
    (n : ∀ (e : D) (c2 : Cfg) (x : V) (Hb1 H1 : Hp), Sr A B Hb1 H1 σ c2 → Rep A Hb1 e x → Same Hb Hb1 → SPost A B E Hb1 De (K e c2) → Q x H1) :
    tBM X.K "list" rPopAt (tVar j) (tCons (rdE A B E fa) tNil) σ H Q := by
  unfold sPopAt at q
  split at q
  · rename_i ho
    obtain ⟨ds0, e0⟩ := Option.isSome_iff_exists.mp ho
    obtain ⟨a, xs0, h1, h2, _⟩ := own_at s (ownL_eq e0)
    refine ⟨_, h1, Or.inl ⟨rfl, _, Or.inl (Or.inl h2)⟩, ?_⟩
    show rdE A B E fa σ H fun x H1 => rPopAt (V.ref a) [x] H1 Q
    refine rs_then s q fun k d c1 v Hb1 H1 _ s1 t1 k1 q1 => ?_
    unfold popAt at q1
    cases d with
    | int i =>
      cases eo : ownL c1 j with
      | none => rw [eo] at q1; exact q1.elim
      | some ds =>
        rw [eo] at q1
        dsimp only at q1
        cases em : (if ds.length ≤ big then ixN ds.length i else none) with
        | none => rw [em] at q1; exact q1.elim
        | some m =>
          rw [em] at q1
          dsimp only at q1
          cases ey : ds[m]? with
          | none => rw [ey] at q1; exact q1.elim
          | some y =>
            rw [ey] at q1
            obtain ⟨a', xs, g1, g2, g3⟩ := own_at s1 (ownL_eq eo)
            rw [h1] at g1
            cases g1
            obtain ⟨x, hx, rx⟩ := g3.get ey
            have hr := ixN_pop em
            refine ⟨a, xs, i, m, x, rfl, by rw [k1.o.int], g2, hr.1, hr.2.1, by rw [← g3.len]; exact hr.2.2, hx, ?_⟩
            exact n y _ x Hb1 _ (s1.mut (ownL_eq eo) a h1 (g3.erase m)) rx t1.b q1
    | _ => exact q1.elim
  · exact q.elim
/-- x_i = x_j.pop(e) -/
theorem ds_setPop {i j : Nat} {st : Stmt} (h : PS X st (tAsg (tBM X.K "list" rPopAt (tVar j) (tCons (rdE A B E fa) tNil)) (gName i))) : DS X A B E st (sPopAt j fa fun e c => putK i .st e c) := PS.imp h fun D σ H ⟨Hb, c, s, q⟩ => by
  show tBM X.K "list" rPopAt (tVar j) (tCons (rdE A B E fa) tNil) σ H fun x H1 => D.nx (σ.set i (some x)) H1
  exact rd_popAt s q fun e c2 x Hb1 H1 s1 r1 _ q1 => s1.putK (k := .st) r1 q1
/-- x_i.append(x_j.pop(e)) -/
def sAppPop (i j : Nat) (fe : EF) : SF := fun c => if (ownL c i).isSome then sPopAt j fe (fun e c1 => match ownL c1 i with
    | some ds => if ds.length < big then .nx (c1.put i (some (true, .lst (ds ++ [e])))) else .bad
    | none => .bad) c else .bad
theorem ds_appPop {i j : Nat} {st : Stmt} (h : PS X st (tDrop (tBM X.K "list" rAppend (tVar i) (tCons (tBM X.K "list" rPopAt (tVar j) (tCons (rdE A B E fa) tNil)) tNil)))) : DS X A B E st (sAppPop i j fa) := PS.imp h fun D σ H ⟨Hb, c, s, q⟩ => by
  unfold sAppPop at q
  split at q
  · rename_i ho
    obtain ⟨ds0, e0⟩ := Option.isSome_iff_exists.mp ho
    obtain ⟨a, xs0, h1, h2, _⟩ := own_at s (ownL_eq e0)
    refine ⟨_, h1, Or.inl ⟨rfl, _, Or.inl (Or.inl h2)⟩, ?_⟩
    show tBM X.K "list" rPopAt (tVar j) (tCons (rdE A B E fa) tNil) σ H fun x H1 => rAppend (V.ref a) [x] H1 fun _ H2 => D.nx σ H2
    refine rd_popAt s q fun e c2 x Hb1 H1 s1 r1 e1 q1 => ?_
    split at q1
    · rename_i ds e2
      split at q1
      · rename_i hl
        obtain ⟨a', xs, g1, g2, g3⟩ := own_at s1 (ownL_eq e2)
        rw [h1] at g1
        cases g1
        refine ⟨a, xs, x, rfl, rfl, g2, ?_, ?_⟩
        · rw [← g3.len]
          exact Nat.lt_of_lt_of_le hl (by rw [sizeLine_eq]; decide)
        · exact q1 _ _ _ (Same.refl _) (s1.mut (ownL_eq e2) a h1 (g3.append (RepL.cons r1 RepL.nil)))
      · exact q1.elim
    · exact q1.elim
  · exact q.elim
end
end DL
namespace DL
open PySem PySem.Spec PyProof.Rows L2
section
variable {X : Cx} {A : Am} {B : Bs} {E : XK} {Hb H Hb1 H1 : Hp} {σ : List (Option V)} {c c1 : Cfg} {fa fb fc ft fe : EF} {f g : SF} {De : Ends} {ga gb : AF}
/-! ### what is never reached -/
def sBad : SF := fun _ => .bad
def evBad : EF := fun _ => .bad
theorem ds_bad {st : Stmt} : DS X A B E st sBad := ⟨fun _ _ _ _ _ _ ⟨_, _, _, q⟩ => q.elim⟩
theorem dss_bad {st : List Stmt} : DSs X A B E st sBad := ⟨fun _ _ _ _ _ _ ⟨_, _, _, q⟩ => q.elim⟩
theorem de_bad {e : Expr} : DE X A B E e evBad := ⟨fun _ _ _ _ _ _ ⟨_, _, _, q⟩ => q.elim⟩
/-! ### is True -/
def gIsB : D → D → Option (Kd × D)
  | .bl a, .bl b => some (.st, .bl (decide (a = b)))
  | _, _ => none
theorem od_isB : OpD X A (compareOp .Is) gIsB := by
  refine ⟨_, op_is_bl, fun B Hb H σ c da db x y k d Q s hx hy e q => ?_⟩
  cases da with
  | bl a =>
    cases db with
    | bl b =>
      cases e
      exact ⟨a, b, hx.bl, hy.bl, q _ Hb H s .refl rk_bl⟩
    | _ => cases e
  | _ => cases e
/-! ### in, of a list -/
def anyEq (d : D) : List D → Option Bool
  | [] => some false
  | e :: es => match eqD e d, anyEq d es with
    | some b, some r => some (b || r)
    | _, _ => none
def inD (d : D) : D → Option Bool
  | .lst ds => match (D.lst ds).py, d.py with
    | some p, some q => if SeqAt.shaped p && SeqAt.shaped q then (match p with | .list ps => some (ps.any fun z => PyData.eqv z q) | _ => none) else none
    | _, _ => none
  | _ => none
def gIn (a b : D) : Option (Kd × D) := (inD a b).map fun t => (.st, .bl t)
def gNotIn (a b : D) : Option (Kd × D) := (inD a b).map fun t => (.st, .bl (!t))
theorem inD_inv {a b : D} {t : Bool} (h : inD a b = some t) : ∃ ds ps q, b = .lst ds ∧ b.py = some (.list ps) ∧ a.py = some q ∧ SeqAt.shaped (.list ps) = true ∧ SeqAt.shaped q = true ∧ t = ps.any fun z => PyData.eqv z q := by
  unfold inD at h
  split at h
  · rename_i ds
    split at h
    · rename_i p q e1 e2
      split at h
      · rename_i hs
        rw [Bool.and_eq_true] at hs
        split at h
        · rename_i ps
          cases h
          exact ⟨ds, ps, q, rfl, e1, e2, hs.1, hs.2, rfl⟩
        · cases h
      · cases h
    · cases h
  · cases h
theorem od_in (hK : X.K = A.K) (hu : X.A.units + 65 < cLine) : OpD X A (compareOp .In) gIn := by
  refine ⟨_, op_inD hu, fun B Hb H σ c da db x y k d Q s hx hy e q => ?_⟩
  unfold gIn at e
  cases he : inD da db with
  | none => rw [he] at e; cases e
  | some t =>
    rw [he] at e
    cases e
    obtain ⟨ds, ps, p, rfl, e1, e2, h1, h2, rfl⟩ := inD_inv he
    refine ⟨p, ps, ?_, ?_, h2, h1, q _ Hb H s .refl rk_bl⟩
    · rw [hK]; exact (hx.whole s.same).dp _ _ _ e2
    · rw [hK]; exact (hy.whole s.same).dp _ _ _ e1
theorem od_notIn (hK : X.K = A.K) (hu : X.A.units + 65 < cLine) : OpD X A (compareOp .NotIn) gNotIn := by
  refine ⟨_, op_notInD hu, fun B Hb H σ c da db x y k d Q s hx hy e q => ?_⟩
  unfold gNotIn at e
  cases he : inD da db with
  | none => rw [he] at e; cases e
  | some t =>
    rw [he] at e
    cases e
    obtain ⟨ds, ps, p, rfl, e1, e2, h1, h2, rfl⟩ := inD_inv he
    refine ⟨p, ps, ?_, ?_, h2, h1, q _ Hb H s .refl rk_bl⟩
    · rw [hK]; exact (hx.whole s.same).dp _ _ _ e2
    · rw [hK]; exact (hy.whole s.same).dp _ _ _ e1
/-! ### repr of what is no object -/
def gRep0 : D → Option (Kd × D)
  | .non => some (.st, .str "None")
  | .bl b => some (.st, .str (if b then "True" else "False"))
  | .int i => if i.natAbs.log2 < 1920 then some (.st, .str (toString i)) else none
  | _ => none
def rRep0 : List V → Hp → VK → Prop := fun xs H Q => ∃ x, xs = [x] ∧ ((x = .non ∧ Q (.str "None") H) ∨ (∃ b, x = .bl b ∧ Q (.str (if b then "True" else "False")) H) ∨ ∃ i : Int, x = .int i ∧ i.natAbs.log2 < 1920 ∧ Q (.str (toString i)) H)
theorem call_rep0 : CallR X (.builtin "repr") rRep0 := by
  intro pins s σ H xs us Q I r h
  obtain ⟨x, rfl, h⟩ := h
  obtain ⟨u, rfl, ru⟩ := r.one
  rcases h with ⟨rfl, q⟩ | ⟨b, rfl, q⟩ | ⟨i, rfl, hl, q⟩
  · obtain rfl : u = Value.none := ru
    exact PySem.P.repr_of_none ⟨.str "None", H, I.tok _, ⟨_, rfl⟩, q⟩
  · obtain rfl : u = Value.bool b := ru
    exact PySem.P.repr_of_bool ⟨.str (if b then "True" else "False"), H, I.tok _, ⟨_, rfl⟩, q⟩
  · obtain ⟨t, rfl⟩ := ru
    exact PySem.P.repr_of_int hl ⟨.str (toString i), H, I.tok _, ⟨_, rfl⟩, q⟩
theorem cd_rep0 : CaD1 X A (.builtin "repr") gRep0 := by
  refine ⟨_, call_rep0, fun B Hb H σ c da x k d Q s hx e q => ?_⟩
  cases da with
  | non =>
    cases e
    exact ⟨x, rfl, .inl ⟨hx.non, q _ Hb H s .refl rk_str⟩⟩
  | bl b =>
    cases e
    exact ⟨x, rfl, .inr (.inl ⟨b, hx.bl, q _ Hb H s .refl rk_str⟩)⟩
  | int i =>
    unfold gRep0 at e
    dsimp only at e
    split at e
    · rename_i hl
      cases e
      exact ⟨x, rfl, .inr (.inr ⟨i, hx.int, hl, q _ Hb H s .refl rk_str⟩)⟩
    · cases e
  | _ => cases e
/-! ### sorted(set(e)), e a tuple of ints -/
def intsD : List D → Option (List Int)
  | [] => some []
  | .int i :: ds => (intsD ds).map (i :: ·)
  | _ :: _ => none
theorem intsD_eq : ∀ {ds : List D} {ns : List Int}, intsD ds = some ns → ds = ns.map D.int
  | [], ns, h => by cases h; rfl
  | d :: ds, ns, h => by
    unfold intsD at h
    split at h
    · rename_i h0; cases h0
    · rename_i i es h0
      cases h0
      cases e : intsD ds with
      | none => rw [e] at h; cases h
      | some ms =>
        rw [e] at h
        cases h
        rw [intsD_eq e]
        rfl
    · cases h
def insN (i : Int) : List Int → List Int
  | [] => [i]
  | j :: js => if i < j then i :: j :: js else if i = j then j :: js else j :: insN i js
/-- in order, each once -/
def sortN : List Int → List Int
  | [] => []
  | i :: is => insN i (sortN is)
theorem insN_mem {i k : Int} : ∀ {js : List Int}, k ∈ insN i js ↔ k = i ∨ k ∈ js
  | [] => by unfold insN; simp
  | j :: js => by
    unfold insN
    split
    · simp
    · split
      · rename_i h1 h2
        subst h2
        simp
      · rw [List.mem_cons, insN_mem, List.mem_cons]
        constructor
        · rintro (h | h | h)
          · exact .inr (.inl h)
          · exact .inl h
          · exact .inr (.inr h)
        · rintro (h | h | h)
          · exact .inr (.inl h)
          · exact .inl h
          · exact .inr (.inr h)
theorem insN_lt {i : Int} : ∀ {js : List Int}, js.Pairwise (· < ·) → (insN i js).Pairwise (· < ·)
  | [], _ => by unfold insN; simp
  | j :: js, h => by
    rw [List.pairwise_cons] at h
    unfold insN
    split
    · rename_i h1
      rw [List.pairwise_cons, List.pairwise_cons]
      refine ⟨fun k hk => ?_, h⟩
      rcases List.mem_cons.mp hk with e | e
      · rw [e]; exact h1
      · exact Int.lt_trans h1 (h.1 k e)
    · split
      · rw [List.pairwise_cons]; exact h
      · rename_i h1 h2
        rw [List.pairwise_cons]
        refine ⟨fun k hk => ?_, insN_lt h.2⟩
        rcases insN_mem.mp hk with e | e
        · rw [e]; omega
        · exact h.1 k e
theorem sortN_lt : ∀ ns : List Int, (sortN ns).Pairwise (· < ·)
  | [] => List.Pairwise.nil
  | n :: ns => insN_lt (sortN_lt ns)
theorem sortN_mem {k : Int} : ∀ {ns : List Int}, k ∈ sortN ns ↔ k ∈ ns
  | [] => Iff.rfl
  | n :: ns => by
    show k ∈ insN n (sortN ns) ↔ _
    rw [insN_mem, sortN_mem, List.mem_cons]
/-- two rising lists of the same members are one -/
theorem rise_eq : ∀ {as bs : List Int}, as.Pairwise (· < ·) → bs.Pairwise (· < ·) → (∀ k, k ∈ as ↔ k ∈ bs) → as = bs
  | [], [], _, _, _ => rfl
  | [], b :: bs, _, _, h => absurd ((h b).mpr List.mem_cons_self) List.not_mem_nil
  | a :: as, [], _, _, h => absurd ((h a).mp List.mem_cons_self) List.not_mem_nil
  | a :: as, b :: bs, ha, hb, h => by
    rw [List.pairwise_cons] at ha hb
    have e : a = b := by
      rcases List.mem_cons.mp ((h a).mp List.mem_cons_self) with z | z
      · exact z
      · rcases List.mem_cons.mp ((h b).mpr List.mem_cons_self) with y | y
        · exact y.symm
        · have := hb.1 a z
          have := ha.1 b y
          omega
    subst e
    rw [rise_eq ha.2 hb.2 fun k => ?_]
    constructor
    · intro hk
      rcases List.mem_cons.mp ((h k).mp (List.mem_cons_of_mem _ hk)) with z | z
      · have := ha.1 k hk; omega
      · exact z
    · intro hk
      rcases List.mem_cons.mp ((h k).mpr (List.mem_cons_of_mem _ hk)) with z | z
      · have := hb.1 k hk; omega
      · exact z
def rSetTI (w : World) : List V → Hp → VK → Prop := fun xs H Q => ∃ (a : Addr) (ns : List Int), xs = [.ref a] ∧ H a = some (.tup (ns.map V.int)) ∧ ns.length < 63 ∧ ∀ (p : Addr) (n : Nat), n ≤ ns.length → H p = none → Q (.ref p) (upd H p (SetO w p (fun j => decide (j ∈ ns)) n))
theorem cr_setTI (hc : X.calm = true) : CallR X (.type "set") (rSetTI X.w) := by
  intro pins s σ H xs us Q I r h
  obtain ⟨a, ns, rfl, ha, hl, q⟩ := h
  obtain ⟨u, rfl, ru⟩ := r.one
  obtain rfl : u = Value.ref a := ru
  obtain ⟨_, its, rv, ht⟩ := I.hok a _ ha
  have ht' : s.heap.IsTuple a its.toArray := ht
  refine call_set_tupI ns (I.ok.hd hc) ht' (Vals.ints rv) (by show ns.length + 1 < scanBound; exact Nat.lt_of_lt_of_le (Nat.succ_lt_succ hl) (by decide)) fun h' tk n R hn k => ?_
  have hp : H s.heap.objs.size = none := I.hok.fresh (Nat.le_refl _)
  exact ⟨.ref _, _, I.laid (t' := tk) k (Nat.le_refl _) (setO_new R), rfl, q _ n hn hp⟩
def gSortSet : D → Option (Kd × D)
  | .tup ds => match intsD ds with
    | some ns => if ns.length < 63 then some (.fr, .lst ((sortN ns).map D.int)) else none
    | none => none
  | _ => none
theorem repL_ints {ns : List Int} {xs : List V} (h : RepL A Hb (ns.map D.int) xs) : xs = ns.map V.int := h.ints
theorem de_sortSet {p p2 pos pos2 : Pos} {e : Expr} (hc : X.calm = true) (hg : Gl X "sorted") (hm : X.mg "sorted" = none) (hv : bootBuiltins "sorted" = some (.builtin "sorted")) (hg2 : Gl X "set") (hm2 : X.mg "set" = none) (hv2 : bootBuiltins "set" = some (.type "set")) (ha : DE X A B E e fa)
    (he : starEach [e] X.env = (false, eval e X.env) :: starEach [] X.env := by rfl) (hpl : (backTo pos2 (starEach [] X.env)).any (·.1) = false := by rfl)
    (he2 : starEach [.Call (.Name "set" p2) [e] [] pos2] X.env = (false, eval (.Call (.Name "set" p2) [e] [] pos2) X.env) :: starEach [] X.env := by rfl) (hpl2 : (backTo pos (starEach [] X.env)).any (·.1) = false := by rfl) :
    DE X A B E (.Call (.Name "sorted" p) [.Call (.Name "set" p2) [e] [] pos2] [] pos) (ev1 gSortSet fa) :=
  PE.imp (pe_callB (cr_sortedSet hc) hg hm hv (pa_cons (pe_callTy (cr_setTI hc) hg2 hm2 hv2 (pa_cons ha pa_nil he) (by decide) (by decide) he hpl) pa_nil he2) (by decide) (by decide) he2 hpl2) fun σ H Q ⟨Hb, c, s, q⟩ => by
    show rdE A B E fa σ H fun v H1 => rSetTI X.w [v] H1 fun z H2 => rSortedSet X.w [z] H2 Q
    refine rd_then s q fun k d c1 v Hb1 H1 _ s1 t1 k1 q1 => ?_
    cases d with
    | tup ds =>
      unfold gSortSet at q1
      dsimp only at q1
      cases ei : intsD ds with
      | none => rw [ei] at q1; exact q1.elim
      | some ns =>
        rw [ei] at q1
        dsimp only at q1
        split at q1
        · rename_i hl
          obtain ⟨a, xs, rfl, h1, h2⟩ := k1.o.tup
          rw [intsD_eq ei] at h2
          have e2 := h2.ints
          subst e2
          refine ⟨a, ns, rfl, s1.same _ _ h1, hl, fun p n hn hp => ?_⟩
          have s2 := s1.new (o := SetO X.w p (fun j => decide (j ∈ ns)) n) hp
          have st : Stp A Hb1 H1 Hb1 (upd H1 p (SetO X.w p (fun j => decide (j ∈ ns)) n)) := ⟨Same.refl _, .of (same_upd hp)⟩
          refine ⟨p, _, n, rfl, upd_same, Nat.lt_of_le_of_lt hn (Nat.lt_of_lt_of_le hl (by decide)), fun ms p2 h3 h4 _ hp2 => ?_⟩
          have em : ms = sortN ns := rise_eq h3 (sortN_lt ns) fun k => by
            rw [h4, sortN_mem]
            simp
          subst em
          obtain ⟨s4, t4, r4⟩ := s2.newLst hp2 (RepL.of_ints (A := A) (H := Hb1) (sortN ns))
          exact q1 _ _ _ s4 (st.trans t4) r4
        · exact q1.elim
    | _ => exact q1.elim
/-! ### e[::-1] -/
def gRevL : D → Option (Kd × D)
  | .lst ds => some (.fr, .lst ds.reverse)
  | _ => none
theorem de_revL {e : Expr} {k : Nat} {p1 p2 p3 pos : Pos} (hK : X.K = A.K) (ha : DE X A B E e fa) : DE X A B E (.Subscript e (.Slice none none (some (.UnaryOp .USub (.Constant (.int 1) k p1) p2)) p3) pos) (ev1 gRevL fa) :=
  PE.imp (pe_revL ha) fun σ H Q ⟨Hb, c, s, q⟩ => by
    show rdE A B E fa σ H _
    refine rd_then s q fun k d c1 v Hb1 H1 _ s1 t1 k1 q1 => ?_
    cases d with
    | lst ds =>
      obtain ⟨a, xs, rfl, h1, h2⟩ := k1.o.lst s1.same
      refine ⟨a, xs, rfl, SqL.of h1, fun p hp => ?_⟩
      obtain ⟨s4, t4, r4⟩ := s1.newLst hp h2.reverse
      exact q1 _ _ _ s4 t4 r4
    | _ => exact q1.elim
end
end DL
namespace DL
open PySem PySem.Spec PyProof.Rows L2
section
variable {X : Cx} {A : Am} {B : Bs} {E : XK} {Hb H Hb1 H1 : Hp} {σ : List (Option V)} {c c1 : Cfg} {fa fb fc ft fe : EF} {f g : SF} {De : Ends} {ga gb : AF}
/-! ### the deal: a list of a list of cells and a blend, of which none but the four words below know -/
def isDeal (c : Cfg) (i : Nat) : Bool := match c.r[i]? with
  | some (some (false, .deal)) => true
  | _ => false
structure DealAt (A : Am) (Hb H : Hp) (σ : List (Option V)) (W : Wd) (i : Nat) (w : Addr × Addr) : Prop where
  ws : A.ws = some w
  at_ : σ[i]? = some (some (V.ref w.1))
  h1 : H w.1 = some (.lst [.ref w.2, .int W.2])
  h2 : H w.2 = some (.lst (W.1.map V.int))
  b1 : Hb w.1 = none
  b2 : Hb w.2 = none
  ne : w.1 ≠ w.2
theorem deal_at {i : Nat} (s : Sr A B Hb H σ c) (h : isDeal c i = true) : ∃ w, DealAt A Hb H σ c.W i w := by
  unfold isDeal at h
  split at h
  · rename_i e
    obtain ⟨v, h1, h2⟩ := s.sh i .deal e
    unfold Rep at h2
    obtain ⟨w, h3, rfl⟩ := h2
    obtain ⟨g1, g2, g3, g4, g5⟩ := s.fin.hr.w w h3
    exact ⟨w, h3, h1, g1, g2, g3, g4, g5⟩
  · cases h
theorem DealAt.later {i : Nat} {w : Addr × Addr} {W : Wd} (d : DealAt A Hb H σ W i w) (s : Sr A B Hb1 H1 σ c) : DealAt A Hb1 H1 σ c.W i w := by
  obtain ⟨g1, g2, g3, g4, g5⟩ := s.fin.hr.w w d.ws
  exact ⟨d.ws, d.at_, g1, g2, g3, g4, g5⟩
/-- one of the deal's two lists is changed -/
theorem Sr.dealt {p : Addr} {xs ys : List V} {W' : Wd} (s : Sr A B Hb H σ c) (hp : A.dl p) (hl : H p = some (.lst xs)) (hb : Hb p = none) (hw : WOk A Hb (upd H p (.lst ys)) W') : Sr A B Hb (upd H p (.lst ys)) σ ⟨c.r, W'⟩ := by
  refine ⟨⟨⟨fun q u e => ?_, s.fin.hr.notb, hw, tabs_upd s.fin.hr.tabs hl⟩, s.fin.b0, ⟨fun q u e => ?_, fun q u e n t => ?_⟩, s.fin.nb⟩, s.len, s.sh, fun i d h => ?_, s.sep, fun q h => ?_⟩
  · rw [upd_ne (ne_of_none e hb)]
    exact s.fin.hr.same q u e
  · by_cases hq : q = p
    · subst hq; exact ⟨_, upd_same⟩
    · rw [upd_ne hq]; exact s.fin.kp.it q u e
  · have : q ≠ p := fun z => n (by rw [z]; exact hp)
    rw [upd_ne this]
    exact s.fin.kp.eq q u e n t
  · obtain ⟨a, o, g1, g2, g3, g4, g5, g6⟩ := s.ow i d h
    have : a ≠ p := fun z => g5 (by rw [z]; exact hp)
    exact ⟨a, o, g1, by rw [upd_ne this]; exact g2, g3, g4, g5, g6⟩
  · obtain ⟨⟨u, g1⟩, g2, g3⟩ := s.pr q h
    by_cases hq : q = p
    · subst hq; exact ⟨⟨_, upd_same⟩, g2, g3⟩
    · exact ⟨⟨u, by rw [upd_ne hq]; exact g1⟩, g2, g3⟩
theorem Sr.cells {i : Nat} {w : Addr × Addr} (s : Sr A B Hb H σ c) (d : DealAt A Hb H σ c.W i w) (ns : List Int) : Sr A B Hb (upd H w.2 (.lst (ns.map V.int))) σ ⟨c.r, (ns, c.W.2)⟩ :=
  s.dealt ⟨w, d.ws, .inr rfl⟩ d.h2 d.b2 fun w' e => by
    rw [d.ws] at e
    cases e
    exact ⟨by rw [upd_ne d.ne]; exact d.h1, upd_same, d.b1, d.b2, d.ne⟩
theorem Sr.blend {i : Nat} {w : Addr × Addr} (s : Sr A B Hb H σ c) (d : DealAt A Hb H σ c.W i w) (b : Int) : Sr A B Hb (upd H w.1 (.lst [.ref w.2, .int b])) σ ⟨c.r, (c.W.1, b)⟩ :=
  s.dealt ⟨w, d.ws, .inl rfl⟩ d.h1 d.b1 fun w' e => by
    rw [d.ws] at e
    cases e
    exact ⟨upd_same, by rw [upd_ne (Ne.symm d.ne)]; exact d.h2, d.b1, d.b2, d.ne⟩
theorem stp_dl {p : Addr} {o o' : HO} (hp : A.dl p) (h : H p = some o) : Stp A Hb H Hb (upd H p o') := ⟨Same.refl _, ⟨fun q u e => by
    by_cases hq : q = p
    · subst hq; exact ⟨_, upd_same⟩
    · exact ⟨u, by rw [upd_ne hq]; exact e⟩, fun q u e n t => by
    have : q ≠ p := fun z => n (by rw [z]; exact hp)
    rw [upd_ne this]
    exact e⟩⟩
/-- deal[0] -/
def rd0 (K : PySem.W.Frag) (i : Nat) : TE := tOp (rIxL K) (tVar i) (tC (.int 0))
theorem rd0_of {K : PySem.W.Frag} {i : Nat} {w : Addr × Addr} {W : Wd} {Q : VK} (d : DealAt A Hb H σ W i w) (q : Q (.ref w.2) H) : rd0 K i σ H Q :=
  ⟨_, d.at_, w.1, _, 0, .ref w.2, rfl, rfl, SqL.of d.h1, rfl, q⟩
/-- deal[0] != [] -/
def evD0ne (i : Nat) : EF := fun c => if isDeal c i then .ok .st (.bl (!c.W.1.isEmpty)) c else .bad
theorem dp_ints {K : PySem.W.Frag} : ∀ ns : List Int, DpAll K H (ns.map V.int) (ns.map PyData.int)
  | [] => .nil
  | n :: ns => .cons (.int n) (dp_ints ns)
theorem shaped_ints (ns : List Int) : SeqAt.shaped (.list (ns.map PyData.int)) = true := by
  have h1 : ∀ ns : List Int, PyData.canLayAll0 (ns.map PyData.int) = true := fun ns => by
    induction ns with
    | nil => rfl
    | cons n ns ih => simp [PyData.canLayAll0, PyData.canLay0, ih]
  have h2 : ∀ ns : List Int, PyData.depthAll (ns.map PyData.int) = 0 := fun ns => by
    induction ns with
    | nil => rfl
    | cons n ns ih => simp [PyData.depthAll, PyData.depth, ih]
  unfold SeqAt.shaped
  rw [show PyData.canLay0 (.list (ns.map PyData.int)) = PyData.canLayAll0 (ns.map PyData.int) by simp only [PyData.canLay0], h1]
  rw [show PyData.depth (.list (ns.map PyData.int)) = PyData.depthAll (ns.map PyData.int) + 1 by simp only [PyData.depth], h2]
  rfl
theorem dt_d0ne {i : Nat} {e : Expr} (h : PT X e (tTest (tOp (rNeD X.K) (rd0 X.K i) (tLst tNil)))) : DT X A B E e (evD0ne i) := PT.imp h fun σ H Q ⟨Hb, c, s, q⟩ => by
  unfold evD0ne at q
  split at q
  · rename_i hd
    obtain ⟨w, d⟩ := deal_at s hd
    obtain ⟨b, e, g⟩ := q
    cases e
    refine rd0_of d ⟨by show 0 ≤ _; exact Nat.zero_le _, fun p hp => ?_⟩
    have s2 := s.new (o := .lst []) hp
    have d2 := d.later s2
    refine ⟨_, _, ?_, ?_, shaped_ints c.W.1, shaped_ints [], ?_⟩
    · exact .lst (SqL.of d2.h2) (dp_ints c.W.1)
    · exact .lst (xs := []) (SqL.of upd_same) .nil
    · refine ⟨_, rfl, ?_⟩
      have : (!PyData.eqv (.list (c.W.1.map PyData.int)) (.list (([] : List Int).map PyData.int))) = !c.W.1.isEmpty := by
        cases c.W.1 <;> simp [PyData.eqv, PyData.eqvAll]
      rw [this]
      exact g Hb _ s2 ⟨Same.refl _, .of (same_upd hp)⟩
  · exact q.elim
/-- the last of a list -/
def lastI (ns : List Int) : Option Int := ns[ns.length - 1]?
theorem lastI_at {ns : List Int} {n : Int} (h : lastI ns = some n) : L2.atI (ns.map V.int) (-1) = some (.int n) ∧ (ns.map V.int)[(ns.map V.int).length - 1]? = some (.int n) := by
  unfold lastI at h
  have hl : ns.length - 1 < ns.length := (List.getElem?_eq_some_iff.mp h).1
  have e2 : (ns.map V.int)[(ns.map V.int).length - 1]? = some (.int n) := by
    rw [List.length_map, List.getElem?_map, h]
    rfl
  refine ⟨?_, e2⟩
  unfold L2.atI L2.ixN
  rw [List.length_map, if_neg (by decide), if_pos (by omega)]
  show (ns.map V.int)[(-1 + (ns.length : Int)).toNat]? = _
  rw [show (-1 + (ns.length : Int)).toNat = ns.length - 1 by omega, List.getElem?_map, h]
  rfl
/-- deal[0][-1] == 0 -/
def evD0z (i : Nat) : EF := fun c => if isDeal c i then (match lastI c.W.1 with
  | some n => .ok .st (.bl (decide (n = 0))) c
  | none => .bad) else .bad
theorem dt_d0z {i : Nat} {e : Expr} (h : PT X e (tTest (tOp (rEqD X.K) (tOp (rIxL X.K) (rd0 X.K i) (tUn (rU fun i => .int (-i)) (tC (.int 1)))) (tC (.int 0))))) : DT X A B E e (evD0z i) := PT.imp h fun σ H Q ⟨Hb, c, s, q⟩ => by
  unfold evD0z at q
  split at q
  · rename_i hd
    obtain ⟨w, d⟩ := deal_at s hd
    split at q
    · rename_i n hn
      obtain ⟨b, e, g⟩ := q
      cases e
      obtain ⟨e1, e2⟩ := lastI_at hn
      refine rd0_of d ⟨1, rfl, w.2, _, -1, .int n, rfl, rfl, SqL.of d.h2, e1, .int n, .int 0, .int n, .int 0, rfl, rfl, _, rfl, ?_⟩
      have : PyData.eqv (.int n) (.int 0) = decide (n = 0) := by
        simp only [PyData.eqv]
        by_cases hz : n = 0 <;> simp [hz]
      rw [this]
      exact g Hb _ s .refl
    · exact q.elim
  · exact q.elim
/-- deal[0].pop() -/
def popW (c : Cfg) (i : Nat) (K : Int → Cfg → SR) : SR := if isDeal c i then (match lastI c.W.1 with
  | some n => K n ⟨c.r, (c.W.1.dropLast, c.W.2)⟩
  | none => .bad) else .bad
theorem rd_popW {i : Nat} {K : Int → Cfg → SR} {Q : VK} (s : Sr A B Hb H σ c) (q : SPost A B E Hb De (popW c i K))
    (n : ∀ (k : Int) (c2 : Cfg) (H1 : Hp), Sr A B Hb H1 σ c2 → SPost A B E Hb De (K k c2) → Q (.int k) H1) : tBM0 X.K "list" rPop (rd0 X.K i) σ H Q := by
  unfold popW at q
  split at q
  · rename_i hd
    obtain ⟨w, d⟩ := deal_at s hd
    split at q
    · rename_i k hk
      obtain ⟨e1, e2⟩ := lastI_at hk
      refine rd0_of d ⟨Or.inl ⟨rfl, _, SqL.of d.h2⟩, w.2, _, .int k, rfl, rfl, d.h2, e2, ?_⟩
      have e3 : (c.W.1.map V.int).dropLast = c.W.1.dropLast.map V.int := by rw [List.map_dropLast]
      rw [e3]
      exact n k _ _ (s.cells d c.W.1.dropLast) q
    · exact q.elim
  · exact q.elim
def sD0pop (i : Nat) : SF := fun c => popW c i fun _ c1 => .nx c1
theorem ds_d0pop {i : Nat} {st : Stmt} (h : PS X st (tDrop (tBM0 X.K "list" rPop (rd0 X.K i)))) : DS X A B E st (sD0pop i) := PS.imp h fun D σ H ⟨Hb, c, s, q⟩ => by
  show tBM0 X.K "list" rPop (rd0 X.K i) σ H fun _ H1 => D.nx σ H1
  exact rd_popW s q fun k c2 H1 s1 q1 => q1 σ Hb H1 (Same.refl _) s1
/-- x_j = int(deal[0].pop()) -/
def sD0popI (i j : Nat) : SF := fun c => popW c i fun n c1 => putK j .st (.int n) c1
theorem ds_d0popI {i j : Nat} {st : Stmt} (h : PS X st (tAsg (tCB (fun xs H Q => (∃ i, xs = [.int i] ∧ Q (.int i) H) ∨ ∃ k, xs = [.bl k] ∧ Q (.int (if k then 1 else 0)) H) (tCons (tBM0 X.K "list" rPop (rd0 X.K i)) tNil)) (gName j))) : DS X A B E st (sD0popI i j) := PS.imp h fun D σ H ⟨Hb, c, s, q⟩ => by
  show tBM0 X.K "list" rPop (rd0 X.K i) σ H fun x H1 => (∃ i, [x] = [V.int i] ∧ D.nx (σ.set j (some (.int i))) H1) ∨ ∃ k, [x] = [V.bl k] ∧ D.nx (σ.set j (some (.int (if k then 1 else 0)))) H1
  exact rd_popW s q fun k c2 H1 s1 q1 => .inl ⟨k, rfl, s1.putK (k := .st) (v := .int k) rk_int q1⟩
/-- deal[0].append(e) -/
def sD0app (i : Nat) (fe : EF) : SF := fun c => if isDeal c i then (fe c).toS (fun _ d c1 => match d with
  | .int n => if isDeal c1 i && decide (c1.W.1.length < big) then .nx ⟨c1.r, (c1.W.1 ++ [n], c1.W.2)⟩ else .bad
  | _ => .bad) else .bad
theorem ds_d0app {i : Nat} {st : Stmt} (h : PS X st (tDrop (tBM X.K "list" rAppend (rd0 X.K i) (tCons (rdE A B E fa) tNil)))) : DS X A B E st (sD0app i fa) := PS.imp h fun D σ H ⟨Hb, c, s, q⟩ => by
  unfold sD0app at q
  split at q
  · rename_i hd
    obtain ⟨w, d⟩ := deal_at s hd
    refine rd0_of d ⟨Or.inl ⟨rfl, _, SqL.of d.h2⟩, ?_⟩
    show rdE A B E fa σ H fun x H1 => rAppend (.ref w.2) [x] H1 fun _ H2 => D.nx σ H2
    refine rs_then s q fun k dd c1 v Hb1 H1 _ s1 t1 k1 q1 => ?_
    cases dd with
    | int n =>
      dsimp only at q1
      split at q1
      · rename_i hh
        rw [Bool.and_eq_true] at hh
        have d1 := d.later s1
        have hl : c1.W.1.length < big := of_decide_eq_true hh.2
        refine ⟨w.2, _, v, rfl, rfl, d1.h2, ?_, ?_⟩
        · rw [List.length_map]
          exact Nat.lt_of_lt_of_le hl (by rw [sizeLine_eq]; decide)
        · rw [k1.o.int]
          have e3 : c1.W.1.map V.int ++ [V.int n] = (c1.W.1 ++ [n]).map V.int := by rw [List.map_append]; rfl
          rw [e3]
          exact q1 σ Hb1 _ (Same.refl _) (s1.cells d1 (c1.W.1 ++ [n]))
      · exact q1.elim
    | _ => exact q1.elim
  · exact q.elim
/-- deal[1] -/
def evD1 (i : Nat) : EF := fun c => if isDeal c i then .ok .st (.int c.W.2) c else .bad
theorem de_d1 {i : Nat} {e : Expr} (h : PE X e (tOp (rIxL X.K) (tVar i) (tC (.int 1)))) : DE X A B E e (evD1 i) := PE.imp h fun σ H Q ⟨Hb, c, s, q⟩ => by
  unfold evD1 at q
  split at q
  · rename_i hd
    obtain ⟨w, d⟩ := deal_at s hd
    exact ⟨_, d.at_, w.1, _, 1, .int c.W.2, rfl, rfl, SqL.of d.h1, rfl, q _ Hb H s .refl rk_int⟩
  · exact q.elim
/-- deal[1] = e -/
def sD1 (i : Nat) (fe : EF) : SF := fun c => (fe c).toS fun _ d c1 => match d with
  | .int n => if isDeal c1 i then .nx ⟨c1.r, (c1.W.1, n)⟩ else .bad
  | _ => .bad
theorem ds_d1 {i : Nat} {st : Stmt} (h : PS X st (tAsg (rdE A B E fa) (gSub (tVar i) (tC (.int 1)) rSetL))) : DS X A B E st (sD1 i fa) := PS.imp h fun D σ H ⟨Hb, c, s, q⟩ => by
  show rdE A B E fa σ H _
  refine rs_then s q fun k dd c1 v Hb1 H1 _ s1 t1 k1 q1 => ?_
  cases dd with
  | int n =>
    dsimp only at q1
    split at q1
    · rename_i hd
      obtain ⟨w, d⟩ := deal_at s1 hd
      refine ⟨_, d.at_, w.1, _, 1, 1, rfl, rfl, d.h1, rfl, ?_⟩
      rw [k1.o.int]
      exact q1 σ Hb1 _ (Same.refl _) (s1.blend d n)
    · exact q1.elim
  | _ => exact q1.elim
end
end DL
namespace DL
open PySem PySem.Spec PyProof.Rows L2
section
variable {X : Cx} {A : Am} {B : Bs} {E : XK} {Hb H Hb1 H1 : Hp} {σ : List (Option V)} {c c1 : Cfg} {fa fb fc ft fe : EF} {f g : SF} {De : Ends} {ga gb : AF}
/-- no exception comes out of a block -/
theorem passE {P : Program} {w : World} {X : Cx} : Passes (L2.CX P w) X E0 := fun pins σ H s e s' I h => by
  obtain ⟨_, _, _, _, _, _, _, _, _, _, _, _, _, z⟩ := h
/-! ### list(range(e)), tuple(range(e)) -/
theorem repL_rng (lo : Int) (n : Nat) : RepL A Hb (rngD lo n) ((List.range n).map fun i : Nat => V.int (lo + (i : Int))) := by
  have z := RepL.of_ints (A := A) (H := Hb) ((List.range n).map fun i : Nat => lo + (i : Int))
  rw [List.map_map, List.map_map] at z
  exact z
def gLRg : D → Option (Kd × D)
  | .int j => if j ≤ big then some (.fr, .lst (rngD 0 j.toNat)) else none
  | _ => none
def gTRg : D → Option (Kd × D)
  | .int j => if j ≤ big then some (.st, .tup (rngD 0 j.toNat)) else none
  | _ => none
theorem rg_ok {j : Int} (h : j ≤ big) (h' : -(2 ^ 62) ≤ j) : RgOk 0 j := by
  unfold big at h
  unfold RgOk
  omega
def rOkL (j : Int) : Bool := decide (-(2 ^ 62) ≤ j)
def evLRg (fe : EF) : EF := fun c => (fe c).bind fun _ d c1 => match d with
  | .int j => if -(2 ^ 62) ≤ j then ofO c1 (gLRg d) else .bad
  | _ => .bad
def evTRg (fe : EF) : EF := fun c => (fe c).bind fun _ d c1 => match d with
  | .int j => if -(2 ^ 62) ≤ j then ofO c1 (gTRg d) else .bad
  | _ => .bad
theorem de_listRg {p p2 pos pos2 : Pos} {e : Expr} (hc : X.calm = true) (hg : Gl X "list") (hm : X.mg "list" = none) (hg2 : Gl X "range") (hm2 : X.mg "range" = none) (ha : DE X A B E e fa) (na : starEach [e] X.env = (false, eval e X.env) :: starEach [] X.env := by rfl)
    (na2 : starEach [.Call (.Name "range" p2) [e] [] pos2] X.env = (false, eval (.Call (.Name "range" p2) [e] [] pos2) X.env) :: starEach [] X.env := by rfl) : DE X A B E (.Call (.Name "list" p) [.Call (.Name "range" p2) [e] [] pos2] [] pos) (evLRg fa) :=
  PE.imp (pe_listRg hc hg hm (prg_1 hg2 hm2 ha na) na2) fun σ H Q ⟨Hb, c, s, q⟩ => by
    show rdE A B E fa σ H _
    refine rd_then s q fun k d c1 v Hb1 H1 _ s1 t1 k1 q1 => ?_
    cases d with
    | int j =>
      dsimp only at q1
      split at q1
      · rename_i h0
        unfold gLRg at q1
        dsimp only at q1
        split at q1
        · rename_i hj
          refine ⟨j, k1.o.int, rg_ok hj h0, fun p hp => ?_⟩
          have z := repL_rng (A := A) (Hb := Hb1) 0 j.toNat
          have e0 : rgV 0 j = (List.range j.toNat).map fun i : Nat => V.int (0 + (i : Int)) := by
            unfold rgV
            rw [Int.sub_zero]
          rw [e0]
          obtain ⟨s4, t4, r4⟩ := s1.newLst hp z
          exact q1 _ _ _ s4 t4 r4
        · exact q1.elim
      · exact q1.elim
    | _ => exact q1.elim
theorem de_tupRg {p p2 pos pos2 : Pos} {e : Expr} (hc : X.calm = true) (hg : Gl X "tuple") (hm : X.mg "tuple" = none) (hg2 : Gl X "range") (hm2 : X.mg "range" = none) (ha : DE X A B E e fa) (na : starEach [e] X.env = (false, eval e X.env) :: starEach [] X.env := by rfl)
    (na2 : starEach [.Call (.Name "range" p2) [e] [] pos2] X.env = (false, eval (.Call (.Name "range" p2) [e] [] pos2) X.env) :: starEach [] X.env := by rfl) : DE X A B E (.Call (.Name "tuple" p) [.Call (.Name "range" p2) [e] [] pos2] [] pos) (evTRg fa) :=
  PE.imp (pe_tupRg hc hg hm (prg_1 hg2 hm2 ha na) na2) fun σ H Q ⟨Hb, c, s, q⟩ => by
    show rdE A B E fa σ H _
    refine rd_then s q fun k d c1 v Hb1 H1 _ s1 t1 k1 q1 => ?_
    cases d with
    | int j =>
      dsimp only at q1
      split at q1
      · rename_i h0
        unfold gTRg at q1
        dsimp only at q1
        split at q1
        · rename_i hj
          refine ⟨j, k1.o.int, rg_ok hj h0, fun p hp => ?_⟩
          have z := repL_rng (A := A) (Hb := Hb1) 0 j.toNat
          have e0 : rgV 0 j = (List.range j.toNat).map fun i : Nat => V.int (0 + (i : Int)) := by
            unfold rgV
            rw [Int.sub_zero]
          rw [e0]
          obtain ⟨s4, t4, r4⟩ := s1.newTup hp z
          exact q1 _ _ _ s4 t4 r4
        · exact q1.elim
      · exact q1.elim
    | _ => exact q1.elim
/-! ### two names at once where one is captured: by way of a pair -/
theorem EPost.imp {Q Q' : VK} {r : ER} (h : EPost A B E Hb H σ Q r) (i : ∀ x H, Q x H → Q' x H) : EPost A B E Hb H σ Q' r := by
  cases r with
  | ok k d c => exact fun v Hb' H' s t k => i _ _ (h v Hb' H' s t k)
  | exc x W => exact h
  | bad => exact h
def De1 (De : Ends) : Ends := { De with nx := fun σ' H' => ∀ (p : Addr) (o : HO), H' p = none → De.nx σ' (upd H' p o) }
theorem SPost.new {r : SR} (h : SPost A B E Hb De r) : SPost A B E Hb (De1 De) r := by
  cases r with
  | nx c => exact fun σ' Hb' H' e s p o hp => h σ' Hb' _ e (s.new hp)
  | brk c => exact h
  | cnt c => exact h
  | ret fr d W => exact h
  | exc x W => exact h
  | bad => exact h
theorem ds_parT {i j : Nat} {x y : Str} {a b : Expr} {px py pt : Pos} {kt k2 : Nat} {pt2 : Pos} {pos : Pos} (hc : X.calm = true) (hij : i ≠ j) (hx : PG X (.Name x px) (gName i)) (hy : PG X (.Name y py) (gName j)) (ha : DE X A B E a fa) (hb : ∀ B, DE X A B E b fb)
    (hw : swappedStores [.Tuple [.Name x px, .Name y py] kt pt] (.Tuple [a, b] k2 pt2) X.env = pure none)
    (hs : swapsWithSole [.Tuple [.Name x px, .Name y py] kt pt] (.Tuple [a, b] k2 pt2) pos.line X.env = pure false := by rfl)
    (h1 : starEach [a, b] X.env = (false, eval a X.env) :: starEach [b] X.env := by rfl) (h2 : starEach [b] X.env = (false, eval b X.env) :: starEach [] X.env := by rfl) (h3 : (assignEach [.Tuple [.Name x px, .Name y py] kt pt] X.env).map (·.2) = [assign (.Tuple [.Name x px, .Name y py] kt pt) X.env] := by rfl) :
    DS X A B E (.Assign [.Tuple [.Name x px, .Name y py] kt pt] (.Tuple [a, b] k2 pt2) pos) (sParK i j fa fb) :=
  PS.imp (ps_asg (pe_tup (pa_cons ha (pa_cons (pey hb) pa_nil h2) h1)) (pg_tup hc (pgs_cons hx (pgs_cons hy pgs_nil))) hs hw h3) fun D σ H ⟨Hb, c, s, q⟩ => by
    have z := rd_par hij s q.new
    show rdE A B E fa σ H fun x H1 => rdEy A E fb σ H1 fun y H2 => ([x, y] : List V).length ≤ sizeLine ∧ ∀ p, H2 p = none → gTup X.K 2 (gCons (gName i) (gCons (gName j) gNil)) (.ref p) σ (upd H2 p (.tup [x, y])) D.nx
    obtain ⟨Hb0, c0, s0, z⟩ := z
    refine ⟨Hb0, c0, s0, EPost.imp z fun x H1 h => ?_⟩
    obtain ⟨B', h⟩ := h
    obtain ⟨Hb1, c1, s1, h⟩ := h
    refine ⟨B', Hb1, c1, s1, EPost.imp h fun y H2 h => ⟨by show 2 ≤ sizeLine; decide, fun p hp => ?_⟩⟩
    obtain ⟨v, w, e, h⟩ := h
    cases e
    exact ⟨p, _, rfl, SqT.of upd_same, rfl, _, _, rfl, _, _, rfl, rfl, h p _ hp⟩
/-- three at once, none of them the frame's own list -/
def sPar3 (i j l : Nat) (ga : AF) : SF := fun c => match ga c with
  | .ok [d1, d2, d3] c1 => if i < c1.r.length ∧ j < c1.r.length ∧ l < c1.r.length then .nx (((c1.put i (some (false, d1))).put j (some (false, d2))).put l (some (false, d3))) else .bad
  | .ok _ _ => .bad
  | .exc x W => .exc x W
  | .bad => .bad
theorem put_len {c : Cfg} {i : Nat} {o : Option (Bool × D)} : (c.put i o).r.length = c.r.length := by
  unfold Cfg.put
  simp
theorem ds_par3 {i j l : Nat} {x y z : Str} {a b c : Expr} {px py pz pt pos : Pos} {kt k2 : Nat} {pt2 : Pos} (hc : X.calm = true) (hN : X.N.Nodup) (hi : X.N[i]? = some x) (hj : X.N[j]? = some y) (hl : X.N[l]? = some z) (hij : i ≠ j) (hil : i ≠ l) (hjl : j ≠ l)
    (hx : X.env.scope.names.lookup x = some .local) (hy : X.env.scope.names.lookup y = some .local) (hz : X.env.scope.names.lookup z = some .local) (ha : DA X A B E [a, b, c] ga)
    (hw : swappedStores [.Tuple [.Name x px, .Name y py, .Name z pz] kt pt] (.Tuple [a, b, c] k2 pt2) X.env = pure (some [x, y, z]))
    (hs : swapsWithSole [.Tuple [.Name x px, .Name y py, .Name z pz] kt pt] (.Tuple [a, b, c] k2 pt2) pos.line X.env = pure false := by rfl) :
    DS X A B E (.Assign [.Tuple [.Name x px, .Name y py, .Name z pz] kt pt] (.Tuple [a, b, c] k2 pt2) pos) (sPar3 i j l ga) :=
  PS.imp (ps_par3 hc hN hi hj hl hij hil hjl hx hy hz ha hw hs) fun D σ H ⟨Hb, c, s, q⟩ => by
    refine ⟨Hb, c, s, ?_⟩
    unfold sPar3 at q
    cases eg : ga c with
    | exc x W => rw [eg] at q; exact q
    | bad => rw [eg] at q; exact q.elim
    | ok ds c1 =>
      rw [eg] at q
      match ds, q with
      | [d1, d2, d3], q =>
        intro vs Hb1 H1 s1 t1 k1
        dsimp only at q
        split at q
        · rename_i hh
          obtain ⟨v1, r1, rfl, h1, k1⟩ := repL_cons.mp k1
          obtain ⟨v2, r2, rfl, h2, k1⟩ := repL_cons.mp k1
          obtain ⟨v3, r3, rfl, h3, k1⟩ := repL_cons.mp k1
          rw [repL_nil.mp k1]
          refine ⟨v1, v2, v3, rfl, ?_⟩
          have sa := s1.setS hh.1 h1
          have sb := sa.setS (i := j) (by rw [put_len]; exact hh.2.1) h2
          have sc := sb.setS (i := l) (by rw [put_len, put_len]; exact hh.2.2) h3
          exact q _ Hb1 H1 t1.b sc
        · exact q.elim
/-- x[e1], x[e2] = (a, b), x the frame's own list -/
def putAt (i : Nat) (d di : D) (c : Cfg) : Option Cfg := match di, ownL c i with
  | .int n, some ds => match ixN ds.length n with
    | some j => some (c.put i (some (true, .lst (ds.set j d))))
    | none => none
  | _, _ => none
def sSwapI (i : Nat) (ga : AF) (f1 f2 : EF) : SF := fun c => match ga c with
  | .ok [d1, d2] c1 => if (ownL c1 i).isSome then (f1 c1).toS (fun _ di c2 => match putAt i d1 di c2 with
    | some c3 => if (ownL c3 i).isSome then (f2 c3).toS (fun _ dj c4 => match putAt i d2 dj c4 with
      | some c5 => .nx c5
      | none => .bad) else .bad
    | none => .bad) else .bad
  | .ok _ _ => .bad
  | .exc x W => .exc x W
  | .bad => .bad
theorem rd_putAt {i : Nat} {d : D} {v : V} {f1 : EF} {K : Cfg → SR} {Q : L2.St → Hp → Prop} (s : Sr A B Hb H σ c) (r : Rep A Hb d v) (q : SPost A B E Hb De (if (ownL c i).isSome then (f1 c).toS (fun _ di c2 => match putAt i d di c2 with
    | some c3 => K c3
    | none => .bad) else .bad)) (n : ∀ (c3 : Cfg) (Hb1 H1 : Hp), Sr A B Hb1 H1 σ c3 → Same Hb Hb1 → SPost A B E Hb1 De (K c3) → Q σ H1) : gSub (tVar i) (rdE A B E f1) rSetL v σ H Q := by
  split at q
  · rename_i ho
    obtain ⟨ds0, e0⟩ := Option.isSome_iff_exists.mp ho
    obtain ⟨a, xs0, h1, h2, _⟩ := own_at s (ownL_eq e0)
    refine ⟨_, h1, ?_⟩
    refine rs_then s q fun k dd c1 w Hb1 H1 _ s1 t1 k1 q1 => ?_
    unfold putAt at q1
    cases dd with
    | int m =>
      cases eo : ownL c1 i with
      | none => rw [eo] at q1; exact q1.elim
      | some ds =>
        rw [eo] at q1
        dsimp only at q1
        cases ej : ixN ds.length m with
        | none => rw [ej] at q1; exact q1.elim
        | some j =>
          rw [ej] at q1
          obtain ⟨a', xs, g1, g2, g3⟩ := own_at s1 (ownL_eq eo)
          rw [h1] at g1
          cases g1
          exact ⟨a, xs, m, j, rfl, k1.o.int, g2, by rw [← g3.len]; exact ej, n _ Hb1 _ (s1.mut (ownL_eq eo) a h1 (g3.set j (Rep.mono t1.b _ _ r))) t1.b q1⟩
    | _ => exact q1.elim
  · exact q.elim
theorem ds_swapI {i : Nat} {st : Stmt} {f1 f2 : EF} (h : PS X st (tAsg (tTup (rdA A B E ga)) (gTup X.K 2 (gCons (gSub (tVar i) (rdE A B E f1) rSetL) (gCons (gSub (tVar i) (rdE A B E f2) rSetL) gNil))))) : DS X A B E st (sSwapI i ga f1 f2) := PS.imp h fun D σ H ⟨Hb, c, s, q⟩ => by
  refine ⟨Hb, c, s, ?_⟩
  unfold sSwapI at q
  cases eg : ga c with
  | exc x W => rw [eg] at q; exact q
  | bad => rw [eg] at q; exact q.elim
  | ok ds c1 =>
    rw [eg] at q
    match ds, q with
    | [d1, d2], q =>
      intro vs Hb1 H1 s1 t1 k1
      obtain ⟨v1, r1, rfl, h1, k1⟩ := repL_cons.mp k1
      obtain ⟨v2, r2, rfl, h2, k1⟩ := repL_cons.mp k1
      rw [repL_nil.mp k1]
      refine ⟨by show 2 ≤ sizeLine; decide, fun p hp => ⟨p, _, rfl, SqT.of upd_same, rfl, v1, _, rfl, ?_⟩⟩
      have s2 := s1.new (o := .tup [v1, v2]) hp
      refine rd_putAt (K := fun c3 => if (ownL c3 i).isSome then (f2 c3).toS (fun _ dj c4 => match putAt i d2 dj c4 with
        | some c5 => .nx c5
        | none => .bad) else .bad) s2 h1 (SPost.mono t1.b q) fun c3 Hb3 H3 s3 e3 q3 => ⟨v2, _, rfl, ?_⟩
      exact rd_putAt (K := fun c5 => .nx c5) s3 (Rep.mono e3 _ _ h2) q3 fun c5 Hb5 H5 s5 e5 q5 => ⟨rfl, q5 σ Hb5 H5 (Same.refl _) s5⟩
end
end DL
namespace DL
open PySem PySem.Spec PyProof.Rows L2
/-! ### fuels -/
def fuI (i : Nat) (c : Cfg) : Nat := match c.r[i]? with
  | some (some (_, .int n)) => n.natAbs + 2
  | _ => 0
def fuL (i : Nat) (c : Cfg) : Nat := match c.r[i]? with
  | some (some (_, .lst ds)) => ds.length + 2
  | _ => 0
def fuW (c : Cfg) : Nat := c.W.1.length + 2
/-! ### keywords -/
theorem kw_of {K : PySem.W.Frag} {x qual : Str} {st : Stmt} {f : Addr} {fd : FuncData} {ps ks : List Str} {n1 n2 : Nat} {π : List Nat} (F : Fun K x qual st f fd)
    (h : ∀ (kV doc pm : Value) (an : Option Addr) (cdv ct : Value) (us ws : List Value), us.length = n1 → ws.length = n2 → bindArgs (PySem.W.fnOf x qual (defArgs st) (defBody st) (defScope st) .none kV doc pm an cdv ct) ⟨us, ks.zip ws⟩ = pure (ps.zip (permL π (us ++ ws)))) : KwB fd ps ks n1 n2 π := by
  obtain ⟨oc, od, kV, doc, pm, an, cdv, ct, osl, rfl, lk, hcd⟩ := F.ex
  exact ⟨h kV doc pm an cdv ct⟩
/-! ### the deal's word -/
/-- the cells without the zeros at their end -/
def trimZ (ns : List Int) : List Int := (ns.reverse.dropWhile (· = 0)).reverse
/-- what _law_any(deal, b) tells, and what the deal is behind it -/
def anyW (W : Wd) (b : Int) : Int × Wd := match lastI (trimZ W.1) with
  | some n => (n % b, ((trimZ W.1).dropLast ++ [n / b], W.2))
  | none => ((W.2 * 40693 + 71) % 2147483647 / 64 % b, ([], (W.2 * 40693 + 71) % 2147483647))
/-- where it serves -/
def anyOk (W : Wd) (b : Int) : Bool := fdivOk b && decide (W.1.length ≤ 1000)
def F__law_any : FF
  | [.deal, .int b], W => if anyOk W b then .ret false (.int (anyW W b).1) (anyW W b).2 else .bad
  | _, _ => .bad
def f_any0 : SF := sWhile fuW (evAnd (evD0ne 0) (evD0z 0)) (sD0pop 0)
def f_any1 : SF := sIf (evD0ne 0) (sSeq (sD0popI 0 2) (sSeq (sD0app 0 (ev2 gFdiv (evB 2) (evB 1))) (sRet (ev2 gMod (evB 2) (evB 1))))) sNil
def f_any2 : SF := sD1 0 (ev2 gMod (ev1 gInt (ev2 gAdd (ev2 gMul (evD1 0) (evC (.int 40693))) (evC (.int 71)))) (evC (.int 2147483647)))
def f_any3 : SF := sRet (ev2 gMod (ev1 gInt (ev2 gFdiv (evD1 0) (evC (.int 64)))) (evB 1))
def f__law_any : SF := sSeq f_any0 (sSeq f_any1 (sSeq f_any2 f_any3))
theorem trimZ_nil : trimZ [] = [] := rfl
theorem trimZ_snoc (ns : List Int) (n : Int) : trimZ (ns ++ [n]) = if n = 0 then trimZ ns else ns ++ [n] := by
  unfold trimZ
  rw [List.reverse_append]
  show (List.dropWhile (fun x => decide (x = 0)) (n :: ns.reverse)).reverse = _
  rw [List.dropWhile_cons]
  by_cases h : n = 0
  · simp [h]
  · simp [h]
theorem lastI_snoc (ns : List Int) (n : Int) : lastI (ns ++ [n]) = some n := by
  unfold lastI
  simp
theorem snoc_of {ns : List Int} (h : ns ≠ []) : ∃ ms m, ns = ms ++ [m] := ⟨ns.dropLast, ns.getLast h, (List.dropLast_concat_getLast h).symm⟩
theorem any_while (r : List (Option (Bool × D))) (hr : r[0]? = some (some (false, .deal))) (bl : Int) : ∀ (n : Nat) (ns : List Int), ns.length < n → goWhile (evAnd (evD0ne 0) (evD0z 0)) (sD0pop 0) n ⟨r, (ns, bl)⟩ = .nx ⟨r, (trimZ ns, bl)⟩
  | 0, ns, h => absurd h (Nat.not_lt_zero _)
  | n + 1, ns, h => by
    have hd : ∀ W : Wd, isDeal ⟨r, W⟩ 0 = true := fun W => by
      unfold isDeal
      rw [hr]
    by_cases e : ns = []
    · subst e
      unfold goWhile evAnd evD0ne
      rw [if_pos (hd _)]
      rfl
    · obtain ⟨ms, m, rfl⟩ := snoc_of e
      have e1 : (!(ms ++ [m]).isEmpty) = true := by simp
      unfold goWhile evAnd evD0ne
      rw [if_pos (hd _)]
      simp only [bind_ok, e1, if_true]
      unfold evD0z
      rw [if_pos (hd _)]
      simp only [lastI_snoc, toS_ok]
      by_cases hz : m = 0
      · subst hz
        simp only [decide_true]
        unfold sD0pop popW
        rw [if_pos (hd _)]
        simp only [lastI_snoc, List.dropLast_concat]
        rw [trimZ_snoc, if_pos rfl]
        exact any_while r hr bl n ms (by simp at h; omega)
      · rw [trimZ_snoc, if_neg hz]
        simp only [hz, decide_false]
theorem any_eq (W : Wd) (b : Int) (h : anyOk W b = true) : runD 3 f__law_any [.deal, .int b] W = .ret false (.int (anyW W b).1) (anyW W b).2 := by
  obtain ⟨ns, bl⟩ := W
  unfold anyOk at h
  rw [Bool.and_eq_true] at h
  obtain ⟨hf, hl⟩ := h
  have hl : ns.length ≤ 1000 := of_decide_eq_true hl
  have hb : 0 < b := by
    unfold fdivOk at hf
    rw [Bool.and_eq_true] at hf
    exact of_decide_eq_true hf.1
  have hr : ([some (false, D.deal), some (false, D.int b), none] : List (Option (Bool × D)))[0]? = some (some (false, .deal)) := rfl
  have hw : f_any0 ⟨[some (false, D.deal), some (false, D.int b), none], (ns, bl)⟩ = .nx ⟨[some (false, D.deal), some (false, D.int b), none], (trimZ ns, bl)⟩ :=
    any_while _ hr bl _ ns (by show ns.length < ns.length + 2; omega)
  have hc : startC 3 [.deal, .int b] (ns, bl) = ⟨[some (false, D.deal), some (false, D.int b), none], (ns, bl)⟩ := rfl
  have ht : (trimZ ns).length ≤ ns.length := by
    unfold trimZ
    rw [List.length_reverse]
    exact Nat.le_trans (List.Sublist.length_le (List.dropWhile_sublist _)) (Nat.le_of_eq (List.length_reverse ..))
  unfold runD f__law_any
  rw [hc]
  unfold sSeq
  rw [hw, sbind_nx]
  unfold anyW
  by_cases e : trimZ ns = []
  · rw [e]
    have h1 : f_any1 ⟨[some (false, D.deal), some (false, D.int b), none], ([], bl)⟩ = .nx ⟨[some (false, D.deal), some (false, D.int b), none], ([], bl)⟩ := rfl
    rw [h1, sbind_nx]
    have h2 : f_any2 ⟨[some (false, D.deal), some (false, D.int b), none], ([], bl)⟩ = .nx ⟨[some (false, D.deal), some (false, D.int b), none], ([], (bl * 40693 + 71) % 2147483647)⟩ := by
      have hm : mulOk bl 40693 = true := by unfold mulOk; simp
      simp [f_any2, sD1, ev2, ev1, evD1, evC, isDeal, gMul, gMulI, gAdd, gAddI, gI, gMod, gInt, hm]
    rw [h2, sbind_nx]
    have hk : fdivOk 64 = true := by decide
    simp [f_any3, sRet, ev2, ev1, evD1, evC, evB, isDeal, gFdiv, gI, gMod, gInt, hk, hb, lastI]
  · obtain ⟨ms, m, e2⟩ := snoc_of e
    rw [e2]
    have hlen : ms.length < 1000 := by
      have : (trimZ ns).length = ms.length + 1 := by rw [e2]; simp
      omega
    have hlen2 : ms.length < big := by unfold big; omega
    simp [f_any1, sIf, evD0ne, isDeal, sSeq, sD0popI, popW, lastI_snoc, putK, Cfg.put, sD0app, ev2, evB, gFdiv, gI, hf, hlen2, sRet, gMod, hb]
theorem FnOk.weak {P : Program} {w : World} {K : PySem.W.Frag} {mg : Str → Option Value} {base : Heap} {CX : CXT} {k : Nat} {f : Addr} {fd : FuncData} {ps : List Str} {sp sp' : Sp} (F : FnOk P w K mg base CX k f fd ps sp) (h : ∀ vs H Q E, sp' vs H Q E → sp vs H Q E) : FnOk P w K mg base CX k f fd ps sp' :=
  ⟨fun vs H Q E z => F.len vs H Q E (h vs H Q E z), fun A outer s H args us vs Q E hr e0 hb r z => F.run A outer s H args us vs Q E hr e0 hb r (h vs H Q E z)⟩
theorem spD_le {A : Am} {n : Nat} {F G : FF} (h : ∀ ds W, ds.length = n → G ds W ≠ .bad → F ds W = G ds W) : ∀ vs H Q E, spD A n G vs H Q E → spD A n F vs H Q E := fun vs H Q E ⟨hl, Hb, ds, W, h1, h2, h3⟩ => ⟨hl, Hb, ds, W, h1, h2, by
  rw [h ds W (by rw [h2.len]; exact hl) fun z => by rw [z] at h3; exact h3]
  exact h3⟩
theorem any_le : ∀ (ds : List D) (W : Wd), ds.length = 2 → F__law_any ds W ≠ .bad → runD 3 f__law_any ds W = F__law_any ds W := fun ds W hl hn => by
  match ds, hl, hn with
  | [.deal, .int b], _, hn =>
    unfold F__law_any at hn ⊢
    dsimp only at hn ⊢
    split at hn
    · rename_i h
      rw [if_pos h]
      exact any_eq W b h
    · exact absurd rfl hn
  | [.deal, .non], _, hn => exact absurd rfl hn
  | [.deal, .bl _], _, hn => exact absurd rfl hn
  | [.deal, .str _], _, hn => exact absurd rfl hn
  | [.deal, .tup _], _, hn => exact absurd rfl hn
  | [.deal, .lst _], _, hn => exact absurd rfl hn
  | [.deal, .obj _ _ _], _, hn => exact absurd rfl hn
  | [.deal, .deal], _, hn => exact absurd rfl hn
  | [.non, _], _, hn => exact absurd rfl hn
  | [.bl _, _], _, hn => exact absurd rfl hn
  | [.int _, _], _, hn => exact absurd rfl hn
  | [.str _, _], _, hn => exact absurd rfl hn
  | [.tup _, _], _, hn => exact absurd rfl hn
  | [.lst _, _], _, hn => exact absurd rfl hn
  | [.obj _ _ _, _], _, hn => exact absurd rfl hn
end DL
namespace DL
open PySem PySem.Spec PyProof.Rows L2
section
variable {prog : Program} {w : World} {A : Around} {E : Value → Shared → Prop} {s : Shared}
theorem cut_back (n : Nat) : Builtin.Slice.sliceAdjust none none (-1) (n : Int) = ((n : Int) - 1, -1) ∧ Builtin.Slice.slicePlaces ((n : Int) - 1) (-1) (-1) = n := by
  constructor
  · unfold Builtin.Slice.sliceAdjust
    simp
  · unfold Builtin.Slice.slicePlaces
    rw [if_neg (by decide)]
    by_cases h : n = 0
    · subst h
      rfl
    · rw [if_pos (by omega)]
      rw [show -(-1 : Int) = 1 by decide, Int.ediv_one]
      omega
theorem applied_back {sl : Addr} {vl vu vs : Value} {n : Nat} {Q : Int × Int × Nat → Shared → Prop} (hs : s.heap.IsSliceOf sl vl vu vs) (pl : IsPart vl none) (pu : IsPart vu none) (ps : IsPart vs (some (-1)))
    (h : Q ((n : Int) - 1, -1, n) s) : wpAny (model prog w) A (Builtin.Slice.sliceApplied (.ref sl) (pure (n : Int))) Q E s := by
  obtain ⟨os, hos, hcs, hds⟩ := id hs
  unfold Builtin.Slice.sliceApplied Builtin.Slice.sliceFields
  refine wpAny_bind (wpAny_bind (wpAny_field hos hds (x := vl) rfl (wpAny_bind (wpAny_field hos hds (x := vu) rfl (wpAny_bind (wpAny_field hos hds (x := vs) rfl (wpAny_pure ?_)))))))
  refine wpAny_bind (HT.slicePart_ ps ?_)
  show wpAny _ _ (if ((-1 : Int) == 0) = true then _ else _) _ _ s
  rw [if_neg (by decide)]
  refine wpAny_bind (HT.slicePart_ pl (wpAny_bind (HT.slicePart_ pu (wpAny_bind (wpAny_pure ?_)))))
  show wpAny _ _ (match Builtin.Slice.sliceAdjust none none (-1) (n : Int) with | (lo, hi) => pure (lo, (-1 : Int), Builtin.Slice.slicePlaces lo hi (-1))) _ _ s
  rw [(cut_back n).1]
  show wpAny _ _ (pure ((n : Int) - 1, (-1 : Int), Builtin.Slice.slicePlaces ((n : Int) - 1) (-1) (-1))) _ _ s
  rw [(cut_back n).2]
  exact wpAny_pure h
theorem pick_back (xs : Array Value) : ((List.range xs.size).filterMap fun (m : Nat) => xs[(((xs.size : Int) - 1) + (m : Int) * (-1)).toNat]?).toArray = xs.toList.reverse.toArray := by
  congr 1
  apply List.ext_getElem?
  intro j
  have e : ∀ n, n ≤ xs.size → (List.range n).filterMap (fun (m : Nat) => xs[(((xs.size : Int) - 1) + (m : Int) * (-1)).toNat]?) = (List.range n).map fun k => xs.toList.reverse.getD k .none := fun n hn => by
    induction n with
    | zero => rfl
    | succ n ih =>
      rw [List.range_succ, List.filterMap_append, List.map_append, ih (by omega)]
      congr 1
      have h1 : xs.size - 1 - n < xs.size := by omega
      have h2 : (((xs.size : Int) - 1) + (n : Int) * (-1)).toNat = xs.size - 1 - n := by omega
      have h3 : xs.toList.reverse.getD n .none = xs[xs.size - 1 - n] := by
        rw [List.getD_eq_getElem?_getD, List.getElem?_reverse (by simpa using (by omega : n < xs.size))]
        simp [h1]
      simp only [List.filterMap_cons, List.filterMap_nil, List.map_cons, List.map_nil, h2, Array.getElem?_eq_getElem h1, h3]
  rw [e _ (Nat.le_refl _), List.getElem?_map]
  by_cases hj : j < xs.size
  · rw [List.getElem?_range hj]
    have h2 : j < xs.toList.reverse.length := by simpa using hj
    simp [List.getD_eq_getElem?_getD, List.getElem?_eq_getElem h2]
  · rw [List.getElem?_eq_none (by simpa using hj), List.getElem?_eq_none (by simpa using hj)]
    rfl
theorem item_back {t sl : Addr} {items : Array Value} {vl vu vs : Value} {Q : Value → Shared → Prop} (ht : IsTup s.heap t items) (hs : s.heap.IsSliceOf sl vl vu vs) (pl : IsPart vl none) (pu : IsPart vu none) (ps : IsPart vs (some (-1)))
    (h : Q (.ref s.heap.objs.size) { s with heap := s.heap.push { cls := .type "tuple", data := .seq items.toList.reverse.toArray } }) (hz : items.size ≤ sizeLine) : wpAny (model prog w) A (getItem (.ref t) (.ref sl)) Q E s := by
  have hfit : sizeOk (.seq items.toList.reverse.toArray) := by
    show items.toList.reverse.toArray.size ≤ sizeLine
    simpa using hz
  obtain ⟨os, hos, hcs, hds⟩ := id hs
  have hTs : s.TypeIs (.ref sl) "slice" := ⟨os, hos, hcs⟩
  unfold getItem
  try with_reducible refine wpAny_holding ?_
  first | refine wpAny_bind (wpAny_pure ?_) | skip
  refine wpAny_bind (wpAny_sequenceKey ht.typeIs (by decide) ?_)
  refine wpAny_bind (wpAny_callSpecial?_slot (name := Str.ofString "__getitem__") ht.typeIs PyProof.Rows.slot_tuple_getitem (wpAny_call_entry PyProof.Rows.slot_tuple_getitem ht.typeIs entry_tuple_getitem ?_ (args_tuple_getitem _ _)))
  show wpAny _ _ (Builtin.Tuple.tupleItemsOf (.ref t) >>= _) _ _ s
  refine wpAny_bind (tupleItemsOf_ ht ?_)
  refine wpAny_bind (wpAny_typeOf hTs ?_)
  rw [if_pos (by decide)]
  refine wpAny_bind (applied_back hs pl pu ps ?_)
  have hno : ¬ ((((items.size : Int) - 1) == 0 && (-1 : Int) == 1 && items.size == items.size) = true) := by simp
  show wpAny _ _ (if (((items.size : Int) - 1) == 0 && (-1 : Int) == 1 && items.size == items.size) = true then _ else _) _ _ s
  rw [if_neg hno, pick_back]
  first
    | exact wpAny_bind (m := Builtin.Tuple.tupleExact _) (wpAny_newObj_type (wpAny_pure ⟨_, rfl, wpAny_pure h⟩) hfit)
    | exact wpAny_bind (m := Builtin.Tuple.tupleExact _) (wpAny_newObj_type (wpAny_bind (wpAny_pure (wpAny_pure ⟨_, rfl, wpAny_pure h⟩))) hfit)
    | exact wpAny_bind (wpAny_bind (m := Builtin.Tuple.tupleExact _) (wpAny_newObj_type (wpAny_pure (wpAny_pure ⟨_, rfl, wpAny_pure h⟩)) hfit))
    | exact wpAny_bind (wpAny_bind (m := Builtin.Tuple.tupleExact _) (wpAny_newObj_type (wpAny_pure ⟨_, rfl, wpAny_pure h⟩) hfit))
end
section
variable {X : Cx} {A : Am} {B : Bs} {E : XK} {Hb H Hb1 H1 : Hp} {σ : List (Option V)} {c c1 : Cfg} {fa fb fc ft fe : EF} {f g : SF} {De : Ends} {ga gb : AF}
def tRevT (K : PySem.W.Frag) (te : TE) : TE := fun σ H Q => te σ H fun x H1 => ∃ (a : Addr) (xs : List V), x = .ref a ∧ SqT K H1 a xs ∧ ∀ p, H1 p = none → Q (.ref p) (upd H1 p (.tup xs.reverse))
theorem pe_revT {e : Expr} {te : TE} {k : Nat} {p1 p2 p3 pos : Pos} (he : PE X e te) : PE X (.Subscript e (.Slice none none (some (.UnaryOp .USub (.Constant (.int 1) k p1) p2)) p3) pos) (tRevT X.K te) := by
  constructor
  intro pins s σ H Q I h
  refine Subscript_ (thn (he.run pins s σ H _ I h) fun v s1 hh => ?_)
  obtain ⟨x, H1, I1, r1, a, xs, rfl, hx, q⟩ := hh
  cases r1
  have hst : PO X (some (.UnaryOp .USub (.Constant (.int 1) k p1) p2)) (tPart (tUn (rU fun i => .int (-i)) (tC (.int 1)))) := po_some (pe_un un_neg pe_int)
  refine wpAny_Slice (thn (po_none.run pins s1 σ H1 (fun o H2 => o = none ∧ H2 = H1) I1 ⟨rfl, rfl⟩) fun vl s2 h2 => ?_)
  obtain ⟨l, H2, I2, pl, rfl, rfl⟩ := h2
  refine thn (po_none.run pins s2 σ H2 (fun o H3 => o = none ∧ H3 = H2) I2 ⟨rfl, rfl⟩) fun vu s3 h3 => ?_
  obtain ⟨u, H3, I3, pu, rfl, rfl⟩ := h3
  refine thn (hst.run pins s3 σ H3 (fun o H4 => o = some (-1) ∧ H4 = H3) I3 ⟨1, rfl, -1, rfl, rfl, rfl⟩) fun vs s4 h4 => ?_
  obtain ⟨o, H4, I4, ps, rfl, rfl⟩ := h4
  have I5 : Inv X pins σ H4 { s4 with heap := s4.heap.push { cls := .type "slice", data := .fields #[vl, vu, vs] } } := I4.kept (t' := s4.toks) fun b ob z => Heap.get?_push_of_some _ z
  obtain ⟨its, r, ht, hz⟩ := I5.tuple hx
  have hlen := r.length
  show wpAny (model X.prog X.w) X.A (subscriptTail e (.Slice none none (some (.UnaryOp .USub (.Constant (.int 1) k p1) p2)) p3) (.ref a) (.ref s4.heap.objs.size)) (EP X pins σ Q) X.xe { s4 with heap := s4.heap.push { cls := .type "slice", data := .fields #[vl, vu, vs] } }
  refine tail_any (ops := [.ref a, .ref s4.heap.objs.size]) ht.typeIs PyProof.Rows.slot_tuple_getitem.lookup ?_ (by with_unfolding_all rfl)
  refine item_back ht (Heap.IsSliceOf.new _ vl vu vs) pl pu ps ?_ (by rw [List.size_toArray]; omega)
  refine ⟨.ref _, _, I5.laid (t' := s4.toks) (o := .tup xs.reverse) (fun b ob z => Heap.get?_push_of_some _ z) (Nat.le_refl _) ?_, rfl, q _ (I5.hok.fresh (Nat.le_refl _))⟩
  exact ⟨by rw [List.length_reverse]; exact hz, _, r.reverse, IsTup.new _ _⟩
def gRev : D → Option (Kd × D)
  | .lst ds => some (.fr, .lst ds.reverse)
  | .tup ds => some (.st, .tup ds.reverse)
  | _ => none
theorem PE.or {e : Expr} {t t' : TE} (h : PE X e t) (h' : PE X e t') : PE X e (fun σ H Q => t σ H Q ∨ t' σ H Q) := ⟨fun pins s σ H Q I q => q.elim (h.run pins s σ H Q I) (h'.run pins s σ H Q I)⟩
theorem de_rev {e : Expr} {k : Nat} {p1 p2 p3 pos : Pos} (hK : X.K = A.K) (ha : DE X A B E e fa) : DE X A B E (.Subscript e (.Slice none none (some (.UnaryOp .USub (.Constant (.int 1) k p1) p2)) p3) pos) (ev1 gRev fa) :=
  PE.imp (PE.or (pe_revL ha) (pe_revT ha)) fun σ H Q ⟨Hb, c, s, q⟩ => by
    cases ef : fa c with
    | exc x W =>
      refine .inl ⟨Hb, c, s, ?_⟩
      unfold ev1 at q
      rw [ef] at q ⊢
      exact q
    | bad =>
      unfold ev1 at q
      rw [ef] at q
      exact q.elim
    | ok k d c1 =>
      cases d with
      | lst ds =>
        refine .inl (rd_then s q fun k d c1 v Hb1 H1 e1 s1 t1 k1 q1 => ?_)
        rw [ef] at e1
        cases e1
        obtain ⟨a, xs, rfl, h1, h2⟩ := k1.o.lst s1.same
        refine ⟨a, xs, rfl, SqL.of h1, fun p hp => ?_⟩
        obtain ⟨s4, t4, r4⟩ := s1.newLst hp h2.reverse
        exact q1 _ _ _ s4 t4 r4
      | tup ds =>
        refine .inr (rd_then s q fun k d c1 v Hb1 H1 e1 s1 t1 k1 q1 => ?_)
        rw [ef] at e1
        cases e1
        obtain ⟨a, xs, rfl, h1, h2⟩ := k1.o.tup
        refine ⟨a, xs, rfl, SqT.of (s1.same _ _ h1), fun p hp => ?_⟩
        obtain ⟨s4, t4, r4⟩ := s1.newTup hp h2.reverse
        exact q1 _ _ _ s4 t4 r4
      | _ =>
        unfold ev1 at q
        rw [ef] at q
        exact q.elim
end
end DL
namespace DL
open PySem PySem.Spec PyProof.Rows L2
section
variable {X : Cx} {A : Am} {B : Bs} {E : XK} {Hb H Hb1 H1 : Hp} {σ : List (Option V)} {c c1 : Cfg} {fa fb fc ft fe : EF} {f g : SF} {De : Ends} {ga gb : AF}
/-! ### the deal is drawn -/
/-- for x in script[:48] -/
def scrA (ns : List Int) : AF := fun c => .ok ((ns.take 48).map D.int) c
def rdIs (K : PySem.W.Frag) (A : Am) (B : Bs) (E : XK) : TI := fun σ H R => ∃ (a : Addr) (ns : List Int), σ[0]? = some (some (.ref a)) ∧ SqL K H a (ns.map V.int) ∧ rdI A B E (scrA ns) σ H R
theorem pi_scr {tg iter : Expr} (h : PI X tg iter (iList X.K (tSl (rSlL X.K) (tVar 0) tNoPart (tPart (tC (.int 48)))))) : PI X tg iter (rdIs X.K A B E) := PI.imp h fun σ H R ⟨a, ns, h0, hs, Hb, c, s, q⟩ => by
  refine ⟨_, h0, 48, rfl, a, _, rfl, hs, fun p hp => ?_⟩
  have e : cutV (ns.map V.int) none (some 48) = (ns.take 48).map V.int := by
    unfold cutV
    rw [List.length_map]
    show List.take (min 48 ns.length - 0) (List.drop 0 (ns.map V.int)) = _
    rw [List.drop_zero, Nat.sub_zero, List.map_take, ← List.take_take, List.take_of_length_le (i := ns.length) (by simp)]
  rw [e]
  obtain ⟨s4, t4, r4⟩ := s.newLst hp (RepL.of_ints (A := A) (H := Hb) (ns.take 48))
  obtain ⟨Hb2, s2, e2, r2⟩ := keepS s4 r4 (by intro z; cases z)
  obtain ⟨a', xs, ex, h1, h2⟩ := rep_lst.mp r2
  cases ex
  exact ⟨p, rfl, ⟨_, SqL.of (s2.same _ _ h1)⟩, q _ Hb2 _ s2 (t4.trans ⟨e2, .refl _⟩) (itok_list h1 h2)⟩
/-- cells = [abs(int(cell)) for cell in script[:48]] -/
def f_draw1 (ns : List Int) : SF := sSet 2 (evLc (scrA ns) (tgN 4) [4] (evC (.bl true)) (ev1 gAbs (ev1 gInt (evB 4))))
def t_draw1 (K : PySem.W.Frag) (A : Am) (B : Bs) (E : XK) : TS := fun D σ H => ∃ (a : Addr) (ns : List Int), σ[0]? = some (some (.ref a)) ∧ SqL K H a (ns.map V.int) ∧ rdS A B E (f_draw1 ns) D σ H
theorem ps_draw1 {st : Stmt} (h : PS X st (tAsg (tLc (rdIs X.K A B E) (gName 4) (rdTx A (evC (.bl true))) (rdEx A (ev1 gAbs (ev1 gInt (evB 4)))) [4]) (gName 2))) : PS X st (t_draw1 X.K A B E) := PS.imp h fun D σ H ⟨a, ns, h0, hs, q⟩ => by
  refine ⟨a, ns, h0, hs, ?_⟩
  obtain ⟨Hb, c, s, q⟩ := q
  have z : rdE A B E (evLc (scrA ns) (tgN 4) [4] (evC (.bl true)) (ev1 gAbs (ev1 gInt (evB 4)))) σ H fun x H1 => D.nx (σ.set 2 (some x)) H1 :=
    rs_then s q fun k d c1 v Hb1 H1 _ s1 _ k1 q1 => s1.putK k1 q1
  obtain ⟨Hb', c', s', q'⟩ := z
  exact rd_lc (tg := .Constant .none 0 ⟨0, 0, 0, 0⟩) (iter := .Constant .none 0 ⟨0, 0, 0, 0⟩) tgs_name (fun j h => h) s' q'
def f_draw2 : SF := sSet 3 (ev2 gAdd (evC (.int 7919)) (ev2 gMul (evC (.int 104729)) (evB 1)))
def f_draw3 : SF := sFor (evIt (evV 2)) (tgN 4) (sSet 3 (ev2 gMod (ev1 gInt (ev2 gAdd (ev2 gAdd (ev2 gMul (evB 3) (evC (.int 48271))) (ev2 gMod (evB 4) (evC (.int 2147483549)))) (evC (.int 11)))) (evC (.int 2147483647))))
def e_draw4 : EF := evLc (evIt (evV 2)) (tgN 4) [4] (ev2 gGe (evB 4) (ev2 gPow (evC (.int 10)) (evC (.int 18)))) (evV 4)
def t_draw4 (K : PySem.W.Frag) (A : Am) (B : Bs) (E : XK) : TS := tRet (tLst (tCons (tRevL K (rdE A B E e_draw4)) (tCons (tVar 3) tNil)))
def t_draw (K : PySem.W.Frag) (A : Am) (B : Bs) (E : XK) : TS := tSeq (t_draw1 K A B E) (tSeq (rdS A B E f_draw2) (tSeq (rdS A B E f_draw3) (t_draw4 K A B E)))
/-- what is drawn -/
def cellsW (ns : List Int) : List Int := (ns.take 48).map fun n => (n.natAbs : Int)
def blendW : List Int → Int → Int
  | [], b => b
  | n :: ns, b => blendW ns ((b * 48271 + n % 2147483549 + 11) % 2147483647)
def drawW (ns : List Int) (salt : Int) : Wd := (((cellsW ns).filter fun n => decide (10 ^ 18 ≤ n)).reverse, blendW (cellsW ns) (7919 + 104729 * salt))
def spDraw (K : PySem.W.Frag) : Sp := fun vs H Q E => ∃ (a : Addr) (ns : List Int) (salt : Int), vs = [.ref a, .int salt] ∧ 0 ≤ salt ∧ salt < 1000 ∧ SqL K H a (ns.map V.int) ∧ (∀ b o, H b = some o → ∀ ps, o ≠ .tbl ps) ∧
  ∀ (wa wc : Addr) (H' : Hp), Same H H' → H wa = none → H wc = none → wa ≠ wc → H' wa = some (.lst [.ref wc, .int (drawW ns salt).2]) → H' wc = some (.lst ((drawW ns salt).1.map V.int)) → Q (.ref wa) H'
/-! the plain parts -/
def drC (salt : Int) (x2 x3 x4 : Option (Bool × D)) (W : Wd) : Cfg := ⟨[none, some (false, .int salt), x2, x3, x4], W⟩
theorem draw1_go (salt : Int) (W : Wd) : ∀ (ns : List Int) (acc : List D), acc.length + ns.length ≤ 48 → goLc (tgN 4) [4] (evC (.bl true)) (ev1 gAbs (ev1 gInt (evB 4))) (ns.map D.int) acc (drC salt none none none W) =
    .ok (acc ++ ns.map fun n => D.int (n.natAbs : Int)) (drC salt none none none W)
  | [], acc, _ => by simp [goLc]
  | n :: ns, acc, h => by
    have hl : acc.length < big := by
      unfold big
      simp at h
      omega
    rw [List.map_cons]
    unfold goLc
    have e1 : tgN 4 (D.int n) ((drC salt none none none W).wipe [4]) = some (drC salt none none (some (false, .int n)) W) := rfl
    rw [e1]
    dsimp only [evC]
    have e2 : ev1 gAbs (ev1 gInt (evB 4)) (drC salt none none (some (false, .int n)) W) = .ok .st (.int (n.natAbs : Int)) (drC salt none none (some (false, .int n)) W) := by
      have : (if n < 0 then -n else n) = (n.natAbs : Int) := by omega
      show ER.ok .st (.int (if n < 0 then -n else n)) _ = _
      rw [this]
    rw [e2]
    dsimp only
    rw [if_pos hl]
    have e3 : Cfg.mrg [4] (drC salt none none none W) (drC salt none none (some (false, .int n)) W) = drC salt none none none W := rfl
    rw [e3, draw1_go salt W ns (acc ++ [D.int (n.natAbs : Int)]) (by simp at h ⊢; omega)]
    simp
theorem draw1_eq (salt : Int) (W : Wd) (ns : List Int) : f_draw1 ns (drC salt none none none W) = .nx (drC salt (some (true, .lst ((cellsW ns).map D.int))) none none W) := by
  have h := draw1_go salt W (ns.take 48) [] (by simp; omega)
  unfold f_draw1 sSet evLc scrA
  dsimp only
  rw [h]
  unfold cellsW
  rw [List.map_map]
  rfl
theorem draw2_eq (salt : Int) (W : Wd) (x2 x4 : Option (Bool × D)) : f_draw2 (drC salt x2 none x4 W) = .nx (drC salt x2 (some (false, .int (7919 + 104729 * salt))) x4 W) := by
  have hm : mulOk 104729 salt = true := by unfold mulOk; simp
  simp [f_draw2, sSet, ev2, evC, evB, drC, gMul, gMulI, gI, hm, gAdd, gAddI, putK, Cfg.put]
theorem draw3_go (salt : Int) (W : Wd) (x2 : Option (Bool × D)) : ∀ (ns : List Int) (b : Int) (x4 : Option (Bool × D)), ∃ y4, goFor (tgN 4) (sSet 3 (ev2 gMod (ev1 gInt (ev2 gAdd (ev2 gAdd (ev2 gMul (evB 3) (evC (.int 48271))) (ev2 gMod (evB 4) (evC (.int 2147483549)))) (evC (.int 11)))) (evC (.int 2147483647)))) (ns.map D.int) (drC salt x2 (some (false, .int b)) x4 W) =
    .nx (drC salt x2 (some (false, .int (blendW ns b))) y4 W)
  | [], b, x4 => ⟨x4, rfl⟩
  | n :: ns, b, x4 => by
    obtain ⟨y4, ih⟩ := draw3_go salt W x2 ns ((b * 48271 + n % 2147483549 + 11) % 2147483647) (some (false, .int n))
    refine ⟨y4, ?_⟩
    rw [List.map_cons]
    unfold goFor
    have e1 : tgN 4 (D.int n) (drC salt x2 (some (false, .int b)) x4 W) = some (drC salt x2 (some (false, .int b)) (some (false, .int n)) W) := rfl
    rw [e1]
    have hm : mulOk b 48271 = true := by unfold mulOk; simp
    have e2 : sSet 3 (ev2 gMod (ev1 gInt (ev2 gAdd (ev2 gAdd (ev2 gMul (evB 3) (evC (.int 48271))) (ev2 gMod (evB 4) (evC (.int 2147483549)))) (evC (.int 11)))) (evC (.int 2147483647))) (drC salt x2 (some (false, .int b)) (some (false, .int n)) W) =
        .nx (drC salt x2 (some (false, .int ((b * 48271 + n % 2147483549 + 11) % 2147483647))) (some (false, .int n)) W) := by
      simp [sSet, ev2, ev1, evC, evB, drC, gMul, gMulI, gI, hm, gAdd, gAddI, gMod, gInt, putK, Cfg.put]
    dsimp only
    rw [e2]
    exact ih
theorem draw3_eq (salt : Int) (W : Wd) (o : Bool) (ns : List Int) (b : Int) : ∃ y4, f_draw3 (drC salt (some (o, .lst (ns.map D.int))) (some (false, .int b)) none W) = .nx (drC salt (some (false, .lst (ns.map D.int))) (some (false, .int (blendW ns b))) y4 W) := by
  obtain ⟨y4, h⟩ := draw3_go salt W (some (false, .lst (ns.map D.int))) ns b none
  refine ⟨y4, ?_⟩
  have e : evIt (evV 2) (drC salt (some (o, .lst (ns.map D.int))) (some (false, .int b)) none W) = .ok (ns.map D.int) (drC salt (some (false, .lst (ns.map D.int))) (some (false, .int b)) none W) := by
    cases o <;> rfl
  unfold f_draw3 sFor
  rw [e]
  exact h
theorem draw4_go (salt : Int) (W : Wd) (x2 x3 : Option (Bool × D)) : ∀ (ns : List Int) (acc : List D) (x4 : Option (Bool × D)), acc.length + ns.length ≤ 48 → ∃ y4, goLc (tgN 4) [4] (ev2 gGe (evB 4) (ev2 gPow (evC (.int 10)) (evC (.int 18)))) (evV 4) (ns.map D.int) acc (drC salt x2 x3 x4 W) =
    .ok (acc ++ (ns.filter fun n => decide (10 ^ 18 ≤ n)).map D.int) (drC salt x2 x3 y4 W)
  | [], acc, x4, _ => ⟨x4, by simp [goLc]⟩
  | n :: ns, acc, x4, h => by
    have hl : acc.length < big := by
      unfold big
      simp at h
      omega
    have e1 : tgN 4 (D.int n) ((drC salt x2 x3 x4 W).wipe [4]) = some (drC salt x2 x3 (some (false, .int n)) W) := rfl
    have e2 : ev2 gGe (evB 4) (ev2 gPow (evC (.int 10)) (evC (.int 18))) (drC salt x2 x3 (some (false, .int n)) W) = .ok .st (.bl (decide (10 ^ 18 ≤ n))) (drC salt x2 x3 (some (false, .int n)) W) := rfl
    have e3 : Cfg.mrg [4] (drC salt x2 x3 x4 W) (drC salt x2 x3 (some (false, .int n)) W) = drC salt x2 x3 (shOf x4) W := rfl
    have e4 : evV 4 (drC salt x2 x3 (some (false, .int n)) W) = .ok .st (.int n) (drC salt x2 x3 (some (false, .int n)) W) := rfl
    by_cases hn : (10 : Int) ^ 18 ≤ n
    · obtain ⟨y4, ih⟩ := draw4_go salt W x2 x3 ns (acc ++ [D.int n]) (shOf x4) (by simp at h ⊢; omega)
      refine ⟨y4, ?_⟩
      rw [List.map_cons]
      unfold goLc
      rw [e1]
      dsimp only
      rw [e2, decide_eq_true hn]
      dsimp only
      rw [e4]
      dsimp only
      rw [if_pos hl, e3, ih, List.filter_cons_of_pos (by simpa using hn)]
      simp
    · obtain ⟨y4, ih⟩ := draw4_go salt W x2 x3 ns acc (shOf x4) (by simp at h ⊢; omega)
      refine ⟨y4, ?_⟩
      rw [List.map_cons]
      unfold goLc
      rw [e1]
      dsimp only
      rw [e2, decide_eq_false hn]
      dsimp only
      rw [e3, ih, List.filter_cons_of_neg (by simpa using hn)]
theorem draw4_eq (salt : Int) (W : Wd) (o : Bool) (ns : List Int) (x3 x4 : Option (Bool × D)) (h : ns.length ≤ 48) : ∃ y4, e_draw4 (drC salt (some (o, .lst (ns.map D.int))) x3 x4 W) = .ok .fr (.lst ((ns.filter fun n => decide (10 ^ 18 ≤ n)).map D.int)) (drC salt (some (false, .lst (ns.map D.int))) x3 y4 W) := by
  obtain ⟨y4, e⟩ := draw4_go salt W (some (false, .lst (ns.map D.int))) x3 ns [] x4 (by simpa using h)
  refine ⟨y4, ?_⟩
  have e0 : evIt (evV 2) (drC salt (some (o, .lst (ns.map D.int))) x3 x4 W) = .ok (ns.map D.int) (drC salt (some (false, .lst (ns.map D.int))) x3 x4 W) := by
    cases o <;> rfl
  unfold e_draw4 evLc
  rw [e0]
  dsimp only
  rw [e]
  rfl
theorem cellsW_len (ns : List Int) : (cellsW ns).length ≤ 48 := by
  unfold cellsW
  rw [List.length_map, List.length_take]
  omega
theorem drC_own {salt : Int} {W : Wd} (i : Nat) (d : D) : (drC salt none none none W).r[i]? ≠ some (some (true, d)) := fun e => by
  rcases i with _ | _ | _ | _ | _ | i
  · cases e
  · cases e
  · cases e
  · cases e
  · cases e
  · simp [drC] at e
/-- one statement after the other, as the walk reads them -/
theorem rdS_seq {A : Am} {B : Bs} {E : XK} {f : SF} {t : TS} {D : Ends} {σ : L2.St} {H Hb : Hp} {c c1 : Cfg} (s : Sr A B Hb H σ c) (e : f c = .nx c1) (n : ∀ (σ' : L2.St) (Hb' H' : Hp), Same Hb Hb' → Sr A B Hb' H' σ' c1 → t D σ' H') : tSeq (rdS A B E f) t D σ H := by
  refine ⟨Hb, c, s, ?_⟩
  rw [e]
  exact n
theorem pure_draw {K : PySem.W.Frag} {vs : List V} {H : Hp} {Q : VK} {E : XK} (h : spDraw K vs H Q E) :
    t_draw K ⟨K, none, []⟩ ⟨fun _ => none, H, fun _ => False⟩ E { nx := fun _ H' => Q .non H', rt := Q } (L2.start ["script", "salt", "cells", "blend", "cell"] vs) H := by
  obtain ⟨a, ns, salt, rfl, s0, s1, hS, nt, q⟩ := h
  have hst : L2.start ["script", "salt", "cells", "blend", "cell"] [.ref a, .int salt] = [some (.ref a), some (.int salt), none, none, none] := rfl
  rw [hst]
  let A : Am := ⟨K, none, []⟩
  let B : Bs := ⟨fun _ => none, H, fun _ => False⟩
  have st : Sr A B (fun _ => none) H [some (.ref a), some (.int salt), none, none, none] (drC salt none none none ([], 0)) := by
    refine ⟨⟨⟨fun p o e => (by cases e), fun p ps e => (by cases e), fun w e => (by cases e), fun p hp => (by cases hp)⟩, fun p o e => e, Kept.refl _, fun p o e _ => e⟩, rfl, fun i d e => ?_, fun i d e => ?_, fun i j di dj b e0 _ _ _ => absurd e0 (drC_own i di), fun p z => z.elim⟩
    · rcases i with _ | _ | _ | _ | _ | i
      · cases e
      · cases e
        exact ⟨.int salt, rfl, rep_int.mpr rfl⟩
      · cases e
      · cases e
      · cases e
      · simp [drC] at e
    · exact absurd e (drC_own i d)
  refine ⟨a, ns, rfl, hS, rdS_seq (t := tSeq (rdS A B E f_draw2) (tSeq (rdS A B E f_draw3) (t_draw4 K A B E))) st (draw1_eq salt _ ns) fun σ1 Hb1 H1 e1 st1 => ?_⟩
  refine rdS_seq (t := tSeq (rdS A B E f_draw3) (t_draw4 K A B E)) st1 (draw2_eq salt _ _ _) fun σ2 Hb2 H2 e2 st2 => ?_
  obtain ⟨y4, e3⟩ := draw3_eq salt ([], 0) true (cellsW ns) (7919 + 104729 * salt)
  refine rdS_seq (t := t_draw4 K A B E) st2 e3 fun σ3 Hb3 H3 e3 st3 => ?_
  obtain ⟨z4, e4⟩ := draw4_eq salt ([], 0) false (cellsW ns) (some (false, .int (blendW (cellsW ns) (7919 + 104729 * salt)))) y4 (cellsW_len ns)
  refine ⟨Hb3, _, st3, ?_⟩
  rw [e4]
  intro v Hb4 H4 st4 t4 k4
  obtain ⟨l, xs, rfl, h1, h2⟩ := k4.o.lst st4.same
  refine ⟨l, xs, rfl, SqL.of h1, fun wc hc => ?_⟩
  obtain ⟨u, hu, ru⟩ := st4.sh 3 _ rfl
  obtain rfl := rep_int.mp ru
  refine ⟨_, hu, by show 2 ≤ sizeLine; decide, fun wa ha => ?_⟩
  have hx : xs = (((cellsW ns).filter fun n => decide (10 ^ 18 ≤ n)).map V.int) := h2.ints
  have ne : wa ≠ wc := fun z => by
    rw [z, upd_same] at ha
    cases ha
  rw [upd_ne ne] at ha
  have hk : Same H (upd (upd H4 wc (.lst xs.reverse)) wa (.lst [.ref wc, .int (blendW (cellsW ns) (7919 + 104729 * salt))])) := fun b o e => by
    have e4 : H4 b = some o := st4.fin.kp.eq b o e (by rintro ⟨w, z, _⟩; cases z) (nt b o e)
    rw [upd_ne (ne_of_none e4 ha), upd_ne (ne_of_none e4 hc)]
    exact e4
  have h0 : ∀ p, H4 p = none → H p = none := fun p hp => by
    cases z : H p with
    | none => rfl
    | some o =>
      obtain ⟨o', z2⟩ := st4.fin.kp.it p o z
      rw [hp] at z2
      cases z2
  refine q wa wc _ hk (h0 wa ha) (h0 wc hc) ne upd_same ?_
  rw [upd_ne (Ne.symm ne), upd_same, hx]
  unfold drawW
  rw [List.map_reverse]
end
end DL
namespace DL
open PySem PySem.Spec PyProof.Rows L2
/-! ### the law's own def -/
def rdSx (K : PySem.W.Frag) (E : XK) (f : SF) : TS := fun D σ H => ∃ (A : Am) (B : Bs), A.K = K ∧ A.T = [] ∧ rdS A B E f D σ H
theorem pssx {X : Cx} {K : PySem.W.Frag} {E : XK} {rest : List Stmt} {f : SF} (h : ∀ (A : Am) (B : Bs), A.K = K → DSs X A B E rest f) : PSs X rest (rdSx K E f) := ⟨fun pins s σ H D I ⟨A, B, hA, _, q⟩ => (h A B hA).run pins s σ H D I q⟩
def spLaw (K : PySem.W.Frag) : Sp := fun vs H Q E => ∃ (a : Addr) (ns : List Int), vs = [.ref a] ∧ SqL K H a (ns.map V.int) ∧ (∀ b o, H b = some o → ∀ ps, o ≠ .tbl ps) ∧ ∀ H', Q (.bl true) H'
theorem only_nt {H : Hp} (hO : Only H) : ∀ (b : Addr) (o : HO), H b = some o → ∀ ps, o ≠ .tbl ps := fun b o e ps z => by
  rcases hO b with h | ⟨o', xs, h⟩
  · rw [h] at e; cases e
  · rw [h] at e
    cases e
    cases z
theorem cx_none {P : Program} {w : World} {outer : List Env} {H : Hp} {s : Shared} {e : Value} {s' : Shared} (h : L2.CX P w outer H s (fun _ _ _ => False) e s') : False := by
  obtain ⟨_, _, _, _, _, _, _, _, _, _, _, _, _, z⟩ := h
/-- the law's slots behind its first statement -/
def lawC (m : Nat) (W : Wd) : Cfg := ⟨none :: some (false, .deal) :: List.replicate m none, W⟩
def t_lawDraw (K : PySem.W.Frag) (E : XK) (salt : Int) : TS := tAsg (fun σ H Q => tCons (tVar 0) (tCons (tC (.int salt)) tNil) σ H fun vs H1 => spDraw K vs H1 Q E) (gName 1)
theorem pure_law {K : PySem.W.Frag} {vs : List V} {H : Hp} {Q : VK} {E : XK} {N : List Str} {m : Nat} {salt : Int} {f : SF} (h : spLaw K vs H Q E) (hN : N.length = m + 2) (h0 : 0 ≤ salt) (h1 : salt < 1000)
    (hf : ∀ ns : List Int, ∃ W', f (lawC m (drawW ns salt)) = .ret false (.bl true) W') :
    tSeq (t_lawDraw K E salt) (rdSx K E f) { nx := fun _ H' => Q .non H', rt := Q } (L2.start N vs) H := by
  obtain ⟨a, ns, rfl, hS, nt, q⟩ := h
  have e0 : L2.start N [.ref a] = some (.ref a) :: none :: List.replicate m none := by
    unfold L2.start
    rw [hN]
    rfl
  rw [e0]
  refine ⟨.ref a, rfl, a, ns, salt, rfl, h0, h1, hS, nt, fun wa wc H' sm na nc ne g1 g2 => ?_⟩
  show rdSx K E f _ (List.set (some (.ref a) :: none :: List.replicate m none) 1 (some (.ref wa))) H'
  let A : Am := ⟨K, some (wa, wc), []⟩
  let B : Bs := ⟨fun _ => none, fun _ => none, fun _ => False⟩
  have st : Sr A B (fun _ => none) H' (some (.ref a) :: some (.ref wa) :: List.replicate m none) (lawC m (drawW ns salt)) := by
    refine ⟨⟨⟨fun p o e => (by cases e), fun p ps e => (by cases e), fun w e => ?_, fun p hp => (by cases hp)⟩, fun p o e => e, ⟨fun p o e => (by cases e), fun p o e => (by cases e)⟩, fun p o _ e => (by cases e)⟩, by simp [lawC], fun i d e => ?_, fun i d e => ?_, fun i j di dj b e _ _ _ => ?_, fun p z => z.elim⟩
    · cases e
      exact ⟨g1, g2, rfl, rfl, ne⟩
    · rcases i with _ | _ | i
      · cases e
      · cases e
        refine ⟨.ref wa, rfl, ?_⟩
        unfold Rep
        exact ⟨(wa, wc), rfl, rfl⟩
      · have z : (List.replicate m none : List (Option (Bool × D)))[i]? = some (some (false, d)) := e
        rw [List.getElem?_replicate] at z
        split at z <;> cases z
    · exfalso
      rcases i with _ | _ | i
      · cases e
      · cases e
      · have z : (List.replicate m none : List (Option (Bool × D)))[i]? = some (some (true, d)) := e
        rw [List.getElem?_replicate] at z
        split at z <;> cases z
    · exfalso
      rcases i with _ | _ | i
      · cases e
      · cases e
      · have z : (List.replicate m none : List (Option (Bool × D)))[i]? = some (some (true, di)) := e
        rw [List.getElem?_replicate] at z
        split at z <;> cases z
  refine ⟨A, B, rfl, rfl, fun _ => none, _, st, ?_⟩
  obtain ⟨W', e⟩ := hf ns
  rw [e]
  intro v Hb' H2 _ r
  have z : v = .bl true := (rep_bl (A := A) (H := Hb')).mp r
  subst z
  exact q H2
end DL
namespace DL
open PySem PySem.Spec PyProof.Rows L2
section
variable {prog : Program} {w : World} {A : Around} {E : Value → Shared → Prop} {s : Shared}
/-- the heap behind collect(x), x of the items vs -/
def colH (h : Heap) (vs : List Value) : Heap := (h.push (seqObj "list" #[] 0)).update h.objs.size (Obj.mapSeq (· ++ vs.toArray))
theorem collect_tup {l : Addr} {vs : List Value} {Q : List Value → Shared → Prop} (hl : s.heap.IsTuple l vs.toArray) (h : Q vs { s with heap := colH s.heap vs }) (hsz : vs.length ≤ sizeLine) : wpAny (model prog w) A (collect (.ref l)) Q E s := by
  obtain ⟨o, ho, hc, n, hd⟩ := id hl
  unfold collect
  refine wpAny_bind (wpAny_runValue (codeAny_builtin entry_proto_collect' ?_))
  show wpAny _ _ (do again (.builtin "list.__iadd__" ⟨[← newList [], .ref l], []⟩)) _ _ s
  refine wpAny_bind (wpAny_newList (wpAny_pure ⟨Code.quiet_builtin _ (by decide +kernel), codeAny_builtin entry_list_iadd' ?_⟩))
  show wpAny _ _ (Builtin.List.listExtendWith (.ref s.heap.objs.size) (.ref l) (.ref s.heap.objs.size)) _ _ { s with heap := s.heap.push (seqObj "list" #[] 0) }
  unfold Builtin.List.listExtendWith
  have ho' : (s.heap.push (seqObj "list" #[] 0)).get? l = some o := Heap.get?_push_of_some _ ho
  refine wpAny_bind (wpAny_typeOf (T := "tuple") ⟨o, ho', hc⟩ ?_)
  have ht : (Value.type "tuple" == Value.type "tuple") = true := by rfl
  rw [if_pos (by rw [ht]; simp)]
  refine wpAny_bind (listItems_at ho' hd ?_)
  refine wpAny_bind (listItems_at (xs := #[]) (n := 0) (Heap.get?_push_size _ rfl) rfl ?_)
  rw [if_neg (by simp)]
  refine wpAny_bind (listUpdate_at (xs := #[]) (n := 0) (Heap.get?_push_size _ rfl) rfl ?_ (Nat.zero_le _) (by show (#[] ++ vs.toArray).size ≤ sizeLine + 1; simp only [Array.size_append, List.size_toArray, List.length_nil]; omega))
  refine wpAny_pure ?_
  show wpAny (model prog w) A (do
      let o ← load s.heap.objs.size
      match o.data with
      | .seq xs _ => pure xs.toList
      | _ => unsupported "internal:collect") Q E { s with heap := colH s.heap vs }
  refine wpAny_bind (wpAny_load (get?_update_seq (Heap.get?_push_size _ rfl) _) ?_)
  show wpAny _ _ (pure ((#[] : Array Value) ++ vs.toArray).toList) Q E _
  rw [show ((#[] : Array Value) ++ vs.toArray).toList = vs by simp]
  exact wpAny_pure h
theorem sorted_tupI {l : Addr} {vs : List Value} {ns : List Int} {Q : Value → Shared → Prop} (hl : s.heap.IsTuple l vs.toArray) (hz : vs.length ≤ sizeLine) (hi : IntsAre vs ns)
    (h : ∀ out : List Value, SrtO.Srtd SrtO.ltIv out → SrtO.Stb SrtO.ltIv out vs → Q (.ref (s.heap.objs.size + 1)) { s with heap := sortedAll s.heap vs out.toArray }) : wpAny (model prog w) A (call (.builtin "sorted") [.ref l]) Q E s := by
  refine Calls.call_function_entry kind_sorted plain_sorted entry_sorted (args_sorted1 _) ?_
  unfold Builtin.«sorted»
  refine wpAny_bind (m := checkCount "sorted" 1 1 _) (wpAny_pure ?_)
  refine wpAny_bind (collect_tup hl ?_ hz)
  refine wpAny_bind (wpAny_newList ?_ hz)
  have e1 : (colH s.heap vs).objs.size = s.heap.objs.size + 1 := by
    unfold colH
    rw [Heap.size_update, size_push']
  have e2 : ((colH s.heap vs).push (seqObj "list" vs.toArray 0)).get? (s.heap.objs.size + 1) = some (seqObj "list" vs.toArray 0) := by
    rw [← e1]
    exact Heap.get?_push_size _ rfl
  show wpAny _ _ _ _ _ { s with heap := (colH s.heap vs).push (seqObj "list" vs.toArray 0) }
  rw [e1]
  refine wpAny_bind (wpAny_holding (wpAny_call_entry slot_list_sort ⟨_, e2, rfl⟩ entry_list_sort (SrtO.list_sort_ord SrtO.swo_int e2 hz (fun h2 => SrtO.ints_sortable hi h2) fun out h1 h2 => ⟨_, rfl, ?_⟩) (args_list_sort _)))
  exact wpAny_pure ⟨_, rfl, h out h1 h2⟩
end
section
variable {X : Cx} {A : Am} {B : Bs} {E : XK} {Hb H Hb1 H1 : Hp} {σ : List (Option V)} {c c1 : Cfg} {fa fb fc ft fe : EF} {f g : SF} {De : Ends} {ga gb : AF}
def rSortedTI : List V → Hp → VK → Prop := fun vs H Q => ∃ (a : Addr) (ns : List Int), vs = [V.ref a] ∧ H a = some (.tup (ns.map V.int)) ∧ ∀ (ns' : List Int) (p : Addr), ns'.Perm ns → ns'.Pairwise (· ≤ ·) → H p = none → Q (.ref p) (upd H p (.lst (ns'.map V.int)))
theorem cr_sortedTI : CallR X (.builtin "sorted") rSortedTI := by
  intro pins s σ H vs us Q I r h
  obtain ⟨a, ns, rfl, ha, q⟩ := h
  obtain ⟨u, rfl, ru⟩ := r.one
  obtain rfl : u = Value.ref a := ru
  obtain ⟨hz, its, rv, ht⟩ := I.hok a _ ha
  have ht' : s.heap.IsTuple a its.toArray := ht
  have hi := rv.ints
  refine sorted_tupI ht' (by rw [← rv.length]; exact hz) hi fun out h1 h2 => ?_
  obtain ⟨k1, k2, k3⟩ := SrtO.ints_out hi h1 h2
  obtain ⟨ep, he'⟩ := PyProof.Rows.sortedAll_at s.heap its out.toArray
  have hlen : ((out.map SrtO.iv).map V.int).length ≤ sizeLine := by
    rw [List.length_map, k2.length_eq]
    rw [List.length_map] at hz
    exact hz
  exact ⟨.ref _, upd H (s.heap.objs.size + 1) (.lst ((out.map SrtO.iv).map V.int)), I.laid (t' := s.toks) (fun _ _ => PyProof.Rows.sortedAll_old) (Nat.le_succ _) ⟨hlen, out, ep, vals_of_ints k1, he'⟩, rfl, q _ _ k2 k3 (I.hok.fresh (Nat.le_succ _))⟩
def rSumT : List V → Hp → VK → Prop := fun vs H Q => ∃ (a : Addr) (ns : List Int), vs = [V.ref a] ∧ H a = some (.tup (ns.map V.int)) ∧ Q (.int ns.sum) H
theorem cr_sumT (hc : X.calm = true) : CallR X (.builtin "sum") rSumT := by
  intro pins s σ H vs us Q I r h
  obtain ⟨a, ns, rfl, ha, q⟩ := h
  obtain ⟨u, rfl, ru⟩ := r.one
  obtain rfl : u = Value.ref a := ru
  obtain ⟨hz, its, rv, ht⟩ := I.hok a _ ha
  have ht' : s.heap.IsTuple a its.toArray := ht
  have hi := rv.ints
  obtain ⟨xs, e⟩ := hi.allInts.items
  have hn : numsOf (intItems xs).toList = ns := by rw [← e]; exact hi.numsOf
  rw [nums_intItems] at hn
  rw [e] at ht'
  refine PySem.W.ktm_sumG (I.ok.hd hc) ht' fun h' tk t' hk => ?_
  rw [preSum_eq, List.take_of_length_le (by simp), hn]
  exact ⟨.int ns.sum, H, I.kept (t' := tk) hk, ⟨_, rfl⟩, q⟩
def gOnT (g : List Int → Option (Kd × D)) : D → Option (Kd × D)
  | .tup ds => (intsD ds).bind g
  | _ => none
theorem gOnT_inv {g : List Int → Option (Kd × D)} {d : D} {k : Kd} {e : D} (h : gOnT g d = some (k, e)) : ∃ ns, d = .tup (ns.map D.int) ∧ g ns = some (k, e) := by
  cases d with
  | tup ds =>
    replace h : (intsD ds).bind g = some (k, e) := h
    cases ei : intsD ds with
    | none => rw [ei] at h; cases h
    | some ns =>
      rw [ei] at h
      exact ⟨ns, by rw [intsD_eq ei], h⟩
  | _ => cases h
theorem oT {ns : List Int} {x : V} (s : Sr A B Hb H σ c) (hx : RepO A Hb H (.tup (ns.map D.int)) x) : ∃ a, x = V.ref a ∧ H a = some (.tup (ns.map V.int)) := by
  obtain ⟨a, xs, rfl, h1, h2⟩ := hx.tup
  rw [h2.ints] at h1
  exact ⟨a, rfl, s.same _ _ h1⟩
def gSumT := gOnT fun ns => some (.st, .int ns.sum)
theorem cd_sumT (hc : X.calm = true) : CaD1 X A (.builtin "sum") gSumT := by
  refine ⟨_, cr_sumT hc, fun B Hb H σ c da x k d Q s hx e q => ?_⟩
  obtain ⟨ns, rfl, e1⟩ := gOnT_inv e
  cases e1
  obtain ⟨a, rfl, h1⟩ := oT s hx
  exact ⟨a, ns, rfl, h1, q _ Hb H s .refl rk_int⟩
def gSortedT := gOnT fun ns => some (.fr, .lst ((sortI ns).map D.int))
theorem cd_sortedT : CaD1 X A (.builtin "sorted") gSortedT := by
  refine ⟨_, cr_sortedTI, fun B Hb H σ c da x k d Q s hx e q => ?_⟩
  obtain ⟨ns, rfl, e1⟩ := gOnT_inv e
  cases e1
  obtain ⟨a, rfl, h1⟩ := oT s hx
  refine ⟨a, ns, rfl, h1, fun ns' p hp ho hn => ?_⟩
  have : ns' = sortI ns := PySem.W.ksm_same (hp.trans (sortI_perm ns).symm) ho (sortI_ord ns)
  subst this
  obtain ⟨s4, t4, r4⟩ := s.newLst hn (RepL.of_ints (A := A) (H := Hb) (sortI ns))
  exact q _ _ _ s4 t4 r4
def gSumA : D → Option (Kd × D) := fun a => (gSum a).orElse fun _ => gSumT a
def gSortedA : D → Option (Kd × D) := fun a => (gSorted a).orElse fun _ => gSortedT a
theorem cd_sumA (hc : X.calm = true) : CaD1 X A (.builtin "sum") gSumA := (cd_sum hc).or (cd_sumT hc)
theorem cd_sortedA : CaD1 X A (.builtin "sorted") gSortedA := cd_sorted.or cd_sortedT
end
end DL
namespace DL
open PySem PySem.Spec PyProof.Rows L2
/-! ### what comes of an evaluator: by rules -/
abbrev QE := Kd → D → Cfg → Prop
abbrev QA := List D → Cfg → Prop
abbrev QC := Cfg → Prop
abbrev QR := Bool → D → Wd → Prop
abbrev QX := XD → Wd → Prop
/-- shut: what is inside is not run -/
structure Lk (p : Prop) : Prop where
  h : p
def wpE (r : ER) (Q : QE) (X : QX) : Prop := Lk (match r with
  | .ok k d c => Q k d c
  | .exc x W => X x W
  | .bad => False)
def wpA (r : AR) (Q : QA) (X : QX) : Prop := Lk (match r with
  | .ok ds c => Q ds c
  | .exc x W => X x W
  | .bad => False)
def wpV (r : OR) (Q : Option Int → Cfg → Prop) (X : QX) : Prop := Lk (match r with
  | .ok o c => Q o c
  | .exc x W => X x W
  | .bad => False)
def wpO (o : Option (Kd × D)) (Q : Kd → D → Prop) : Prop := ∃ k d, o = some (k, d) ∧ Q k d
def wpC (o : Option Cfg) (Q : QC) : Prop := ∃ c, o = some c ∧ Q c
def wpF (r : FR) (Q : QR) (X : QX) : Prop := Lk (match r with
  | .ret fr d W => Q fr d W
  | .exc x W => X x W
  | .bad => False)
/-- next, what is returned, break, continue, an error -/
structure QS where
  n : QC
  r : QR
  b : QC
  c : QC
  x : QX
def wpS (r : SR) (Q : QS) : Prop := Lk (match r with
  | .nx c => Q.n c
  | .ret fr d W => Q.r fr d W
  | .brk c => Q.b c
  | .cnt c => Q.c c
  | .exc x W => Q.x x W
  | .bad => False)
section
variable {c c1 : Cfg} {r : List (Option (Bool × D))} {W W' : Wd} {i j n : Nat} {d d1 d2 : D} {b : Bool} {k : Kd} {ds : List D} {fa fb fc ft fe : EF} {ga gb it : AF} {f g body : SF} {Q : QE} {N BB CC : QC} {R : QR} {X : QX} {QL : QA}
theorem wpE.imp {r : ER} {Q' : QE} (h : wpE r Q X) (i : ∀ k d c, Q k d c → Q' k d c) : wpE r Q' X := by
  cases r with
  | ok k d c => exact ⟨i k d c h.h⟩
  | exc x W => exact h
  | bad => exact h
theorem wpF.imp {r : FR} {Q Q' : QR} (h : wpF r Q X) (i : ∀ k d c, Q k d c → Q' k d c) : wpF r Q' X := by
  cases r with
  | ret k d c => exact ⟨i k d c h.h⟩
  | exc x W => exact h
  | bad => exact h
theorem wpF_of {r : FR} {fr : Bool} {Q : QR} (h : r = .ret fr d W) (q : Q fr d W) : wpF r Q X := by rw [h]; exact ⟨q⟩
theorem wpF_ofX {r : FR} {x : XD} {Q : QR} (h : r = .exc x W) (q : X x W) : wpF r Q X := by rw [h]; exact ⟨q⟩
theorem ret_of {r : FR} {fr : Bool} (h : wpF r (fun fr' d' W' => fr' = fr ∧ d' = d ∧ W' = W) (fun _ _ => False)) : r = .ret fr d W := by
  cases r with
  | ret k d c => obtain ⟨rfl, rfl, rfl⟩ := h; rfl
  | exc x W => exact h.h.elim
  | bad => exact h.h.elim
theorem exc_of {r : FR} {x : XD} (h : wpF r (fun _ _ _ => False) (fun x' W' => x' = x ∧ W' = W)) : r = .exc x W := by
  cases r with
  | ret k d c => exact h.h.elim
  | exc x W => obtain ⟨rfl, rfl⟩ := h; rfl
  | bad => exact h.h.elim
/-- a spec of results of one kind -/
theorem wpF_ex {r : FR} {Q : QR} (h : wpF r Q (fun _ _ => False)) : ∃ fr d W, r = .ret fr d W ∧ Q fr d W := by
  cases r with
  | ret k d c => exact ⟨_, _, _, rfl, h.h⟩
  | exc x W => exact h.h.elim
  | bad => exact h.h.elim
/-! leaves -/
theorem wE_evV_s (h : r[i]? = some (some (false, d))) (q : Q .st d ⟨r, W⟩) : wpE (evV i ⟨r, W⟩) Q X := by
  unfold evV wpE
  simp only [h]
  exact ⟨q⟩
theorem wE_evV_o {r' : List (Option (Bool × D))} (h : r[i]? = some (some (true, d))) (hr : r.set i (some (false, d)) = r') (q : Q .st d ⟨r', W⟩) : wpE (evV i ⟨r, W⟩) Q X := by
  subst hr
  unfold evV wpE
  simp only [h]
  exact ⟨q⟩
theorem wE_evB (h : r[i]? = some (some (b, d))) (q : Q .bo d ⟨r, W⟩) : wpE (evB i ⟨r, W⟩) Q X := by
  unfold evB wpE
  simp only [h]
  exact ⟨q⟩
theorem wE_evM_s (h : r[i]? = some (some (false, d))) (q : Q .st d ⟨r, W⟩) : wpE (evM i ⟨r, W⟩) Q X := by
  unfold evM wpE
  simp only [h]
  exact ⟨q⟩
theorem wE_evM_o {r' : List (Option (Bool × D))} (h : r[i]? = some (some (true, d))) (hr : r.set i none = r') (q : Q .fr d ⟨r', W⟩) : wpE (evM i ⟨r, W⟩) Q X := by
  subst hr
  unfold evM wpE
  simp only [h]
  exact ⟨q⟩
theorem wE_evC (q : Q .st d c) : wpE (evC d c) Q X := ⟨q⟩
/-! expressions -/
theorem wE_ofO {o : Option (Kd × D)} (h : wpO o (fun k d => Q k d c)) : wpE (ofO c o) Q X := by
  obtain ⟨k, d, rfl, q⟩ := h
  exact ⟨q⟩
theorem wE_ev1 {g : D → Option (Kd × D)} (h : wpE (fa c) (fun _ d c1 => wpO (g d) fun k d' => Q k d' c1) X) : wpE (ev1 g fa c) Q X := by
  unfold ev1
  cases e : fa c with
  | ok k d c1 =>
    rw [e] at h
    exact wE_ofO h.h
  | exc x W => rw [e] at h; exact h
  | bad => rw [e] at h; exact h
theorem wE_bind {r : ER} {K : Kd → D → Cfg → ER} (h : wpE r (fun k d c1 => wpE (K k d c1) Q X) X) : wpE (r.bind K) Q X := by
  cases r with
  | ok k d c1 => exact h.h
  | exc x W => exact h
  | bad => exact h
theorem wE_ev2 {g : D → D → Option (Kd × D)} (h : wpE (fa c) (fun _ d1 c1 => wpE (fb c1) (fun _ d2 c2 => wpO (g d1 d2) fun k d' => Q k d' c2) X) X) : wpE (ev2 g fa fb c) Q X := by
  unfold ev2
  exact wE_bind (h.imp fun k d c1 q => wE_bind (q.imp fun k2 d2 c2 q2 => wE_ofO q2))
/-- looked at -/
def seqD : D → Option (List D)
  | .lst ds => some ds
  | .tup ds => some ds
  | _ => none
def lstD : D → Option (List D)
  | .lst ds => some ds
  | _ => none
def tupD : D → Option (List D)
  | .tup ds => some ds
  | _ => none
def intD : D → Option Int
  | .int i => some i
  | _ => none
def blD : D → Option Bool
  | .bl b => some b
  | _ => none
theorem seqD_eq (h : seqD d = some ds) : d = .lst ds ∨ d = .tup ds := by cases d <;> first | (cases h; done) | (cases h; exact .inl rfl) | (cases h; exact .inr rfl)
theorem lstD_eq (h : lstD d = some ds) : d = .lst ds := by cases d <;> first | (cases h; done) | (cases h; rfl)
theorem tupD_eq (h : tupD d = some ds) : d = .tup ds := by cases d <;> first | (cases h; done) | (cases h; rfl)
theorem intD_eq {i : Int} (h : intD d = some i) : d = .int i := by cases d <;> first | (cases h; done) | (cases h; rfl)
theorem blD_eq (h : blD d = some b) : d = .bl b := by cases d <;> first | (cases h; done) | (cases h; rfl)
/-- what is asked of a value -/
def isBl (d : D) (P : Bool → Prop) : Prop := ∃ b, d = .bl b ∧ P b
def isInt (d : D) (P : Int → Prop) : Prop := ∃ i, d = .int i ∧ P i
def isTru (d : D) (P : Bool → Prop) : Prop := ∃ b, truD d = some b ∧ P b
def lenB (ds : List D) (P : Prop) : Prop := ds.length ≤ 1000000 ∧ P
def in62 (i : Int) (P : Prop) : Prop := (-(2 ^ 62) ≤ i ∧ i < 2 ^ 62) ∧ P
def inM (i : Int) (P : Prop) : Prop := (-(2 ^ 62) ≤ i ∧ i ≤ 1000000) ∧ P
theorem isBl_i {P : Bool → Prop} (hd : blD d = some b) (h : P b) : isBl d P := ⟨b, blD_eq hd, h⟩
theorem isInt_i {P : Int → Prop} {i : Int} (hd : intD d = some i) (h : P i) : isInt d P := ⟨i, intD_eq hd, h⟩
theorem isTru_i {P : Bool → Prop} (hd : truD d = some b) (h : P b) : isTru d P := ⟨b, hd, h⟩
theorem lenB_i {P : Prop} (h : ds.length ≤ 1000000) (q : P) : lenB ds P := ⟨h, q⟩
theorem in62_i {P : Prop} {i : Int} (h1 : -(2 ^ 62) ≤ i) (h2 : i < 2 ^ 62) (q : P) : in62 i P := ⟨⟨h1, h2⟩, q⟩
theorem inM_i {P : Prop} {i : Int} (h1 : -(2 ^ 62) ≤ i) (h2 : i ≤ 1000000) (q : P) : inM i P := ⟨⟨h1, h2⟩, q⟩
/-- a bool, by cases -/
def onBl (d : D) (T F : Prop) : Prop := ∃ b, d = .bl b ∧ (b = true → T) ∧ (b = false → F)
theorem wE_ev3 {g g' : D → D → Option (Kd × D)} (h : wpE (fa c) (fun _ d1 c1 => wpE (fb c1) (fun _ d2 c2 => wpO (g d1 d2) fun _ t => onBl t (wpE (fc c2) (fun _ d3 c3 => wpO (g' d2 d3) fun k d' => Q k d' c3) X) (Q .st (.bl false) c2)) X) X) : wpE (ev3 g g' fa fb fc c) Q X := by
  unfold ev3
  refine wE_bind (h.imp fun k d c1 q => wE_bind (q.imp fun k2 d2 c2 q2 => ?_))
  obtain ⟨kk, dd, e, b, rfl, h2, h1⟩ := q2
  rw [e]
  cases b with
  | false => exact ⟨h1 rfl⟩
  | true => exact wE_bind ((h2 rfl).imp fun k3 d3 c3 q3 => wE_ofO q3)
theorem wE_tup (h : wpA (ga c) (fun ds c1 => lenB ds (Q .st (.tup ds) c1)) X) : wpE (evTup ga c) Q X := by
  unfold evTup
  cases e : ga c with
  | ok ds c1 =>
    rw [e] at h
    obtain ⟨h1, h2⟩ := h
    rw [abind_ok, if_pos (show ds.length ≤ big from h1)]
    exact ⟨h2⟩
  | exc x W => rw [e] at h; exact h
  | bad => rw [e] at h; exact h
theorem wE_lst (h : wpA (ga c) (fun ds c1 => lenB ds (Q .fr (.lst ds) c1)) X) : wpE (evLst ga c) Q X := by
  unfold evLst
  cases e : ga c with
  | ok ds c1 =>
    rw [e] at h
    obtain ⟨h1, h2⟩ := h
    rw [abind_ok, if_pos (show ds.length ≤ big from h1)]
    exact ⟨h2⟩
  | exc x W => rw [e] at h; exact h
  | bad => rw [e] at h; exact h
theorem wA_nil (q : QL [] c) : wpA (evNil c) QL X := ⟨q⟩
theorem wA_cons (h : wpE (fa c) (fun k d c1 => k ≠ .bo ∧ wpA (ga c1) (fun ds c2 => QL (d :: ds) c2) X) X) : wpA (evCons fa ga c) QL X := by
  unfold evCons
  cases e : fa c with
  | ok k d c1 =>
    rw [e] at h
    obtain ⟨h1, h2⟩ := h
    have key : wpA ((ga c1).cons d) QL X := by
      cases e2 : ga c1 with
      | ok ds c2 => rw [e2] at h2; exact h2
      | exc x W => rw [e2] at h2; exact h2
      | bad => rw [e2] at h2; exact h2
    cases k with
    | bo => exact absurd rfl h1
    | st => exact key
    | fr => exact key
  | exc x W => rw [e] at h; exact h
  | bad => rw [e] at h; exact h
theorem st_nb : Kd.st ≠ .bo := by intro h; cases h
theorem fr_nb : Kd.fr ≠ .bo := by intro h; cases h
theorem wE_if (h : wpE (ft c) (fun _ d c1 => onBl d (wpE (fa c1) Q X) (wpE (fb c1) Q X)) X) : wpE (evIf ft fa fb c) Q X := by
  unfold evIf
  refine wE_bind (h.imp fun k d c1 q => ?_)
  obtain ⟨b, rfl, h1, h2⟩ := q
  cases b with
  | true => exact h1 rfl
  | false => exact h2 rfl
theorem wE_and (h : wpE (fa c) (fun _ d c1 => onBl d (wpE (fb c1) Q X) (Q .st (.bl false) c1)) X) : wpE (evAnd fa fb c) Q X := by
  unfold evAnd
  refine wE_bind (h.imp fun k d c1 q => ?_)
  obtain ⟨b, rfl, h1, h2⟩ := q
  cases b with
  | true => exact h1 rfl
  | false => exact ⟨h2 rfl⟩
theorem wE_or (h : wpE (fa c) (fun _ d c1 => onBl d (Q .st (.bl true) c1) (wpE (fb c1) Q X)) X) : wpE (evOr fa fb c) Q X := by
  unfold evOr
  refine wE_bind (h.imp fun k d c1 q => ?_)
  obtain ⟨b, rfl, h1, h2⟩ := q
  cases b with
  | true => exact ⟨h1 rfl⟩
  | false => exact h2 rfl
theorem wE_not (h : wpE (fa c) (fun _ d c1 => isBl d fun b => Q .st (.bl (!b)) c1) X) : wpE (evNot fa c) Q X := by
  unfold evNot
  refine wE_bind (h.imp fun k d c1 q => ?_)
  obtain ⟨b, rfl, h1⟩ := q
  exact ⟨h1⟩
theorem wE_tru (h : wpE (fa c) (fun _ d c1 => isTru d fun b => Q .st (.bl b) c1) X) : wpE (evTru fa c) Q X := by
  unfold evTru
  refine wE_bind (h.imp fun k d c1 q => ?_)
  obtain ⟨b, e, h1⟩ := q
  rw [e]
  exact ⟨h1⟩
theorem wE_neg (h : wpE (fa c) (fun _ d c1 => isInt d fun i => Q .st (.int (-i)) c1) X) : wpE (evNeg fa c) Q X := by
  unfold evNeg
  refine wE_bind (h.imp fun k d c1 q => ?_)
  obtain ⟨b, rfl, h1⟩ := q
  exact ⟨h1⟩
theorem abind_w {r : AR} {K : List D → Cfg → ER} (h : wpA r (fun ds c1 => wpE (K ds c1) Q X) X) : wpE (r.bind K) Q X := by
  cases r with
  | ok ds c1 => exact h.h
  | exc x W => exact h
  | bad => exact h
theorem wpA.imp {r : AR} {QL' : QA} (h : wpA r QL X) (i : ∀ ds c, QL ds c → QL' ds c) : wpA r QL' X := by
  cases r with
  | ok ds c1 => exact ⟨i _ _ h.h⟩
  | exc x W => exact h
  | bad => exact h
def frK (fr : Bool) : Kd := if fr then .fr else .st
def callK (n : Nat) (F : FF) (Q : QE) (X : QX) (ds : List D) (c : Cfg) : Prop := ds.length = n ∧ wpF (F ds c.W) (fun fr d W' => Q (frK fr) d ⟨c.r, W'⟩) X
theorem call_st {F : FF} (h : Nat.beq ds.length n = true) (q : wpF (F ds W) (fun fr d W' => Q (frK fr) d ⟨r, W'⟩) X) : callK n F Q X ds ⟨r, W⟩ := ⟨Nat.eq_of_beq_eq_true h, q⟩
theorem wE_call {F : FF} (h : wpA (ga c) (callK n F Q X) X) : wpE (evCall n F ga c) Q X := by
  unfold evCall
  refine abind_w (h.imp fun ds c1 q => ?_)
  obtain ⟨h1, h2⟩ := q
  rw [if_pos h1]
  cases e : F ds c1.W with
  | ret fr d W => rw [e] at h2; exact h2
  | exc x W => rw [e] at h2; exact h2
  | bad => rw [e] at h2; exact h2
theorem wE_callK {F : FF} {n1 n2 : Nat} {π : List Nat} {gk : AF} (h : wpA (ga c) (fun ds c1 => ds.length = n1 ∧ wpA (gk c1) (fun es c2 => es.length = n2 ∧ callK n F Q X (permL π (ds ++ es)) c2) X) X) : wpE (evCallK n n1 n2 π F ga gk c) Q X := by
  unfold evCallK
  refine abind_w (h.imp fun ds c1 q => ?_)
  obtain ⟨h1, h2⟩ := q
  refine abind_w (h2.imp fun es c2 q2 => ?_)
  obtain ⟨h3, h4, h5⟩ := q2
  rw [if_pos ⟨h1, h3⟩, if_pos h4]
  cases e : F (permL π (ds ++ es)) c2.W with
  | ret fr d W => rw [e] at h5; exact h5
  | exc x W => rw [e] at h5; exact h5
  | bad => rw [e] at h5; exact h5
theorem wE_bad (h : False) : wpE (evBad c) Q X := ⟨h⟩
/-! slices -/
theorem wV_none {QV : Option Int → Cfg → Prop} (q : QV none c) : wpV (evON c) QV X := ⟨q⟩
theorem wV_some {QV : Option Int → Cfg → Prop} (h : wpE (fa c) (fun _ d c1 => isInt d fun i => QV (some i) c1) X) : wpV (evOS fa c) QV X := by
  unfold evOS
  cases e : fa c with
  | ok k d c1 =>
    rw [e] at h
    obtain ⟨i, rfl, q⟩ := h
    exact ⟨q⟩
  | exc x W => rw [e] at h; exact h
  | bad => rw [e] at h; exact h
theorem wV_bind {r : OR} {K : Option Int → Cfg → ER} (h : wpV r (fun k c1 => wpE (K k c1) Q X) X) : wpE (r.bind K) Q X := by
  cases r with
  | ok k c1 => exact h.h
  | exc x W => exact h
  | bad => exact h
theorem wpV.imp {r : OR} {QV QV' : Option Int → Cfg → Prop} (h : wpV r QV X) (i : ∀ ds c, QV ds c → QV' ds c) : wpV r QV' X := by
  cases r with
  | ok ds c1 => exact ⟨i _ _ h.h⟩
  | exc x W => exact h
  | bad => exact h
theorem wE_sl {fl fh : OF} (h : wpE (fa c) (fun _ d c1 => wpV (fl c1) (fun l c2 => wpV (fh c2) (fun h c3 => wpO (gSl d l h) fun k d' => Q k d' c3) X) X) X) : wpE (evSl fa fl fh c) Q X := by
  unfold evSl
  exact wE_bind (h.imp fun k d c1 q => wV_bind (q.imp fun l c2 q2 => wV_bind (q2.imp fun h c3 q3 => wE_ofO q3)))
theorem wE_LRg (h : wpE (fa c) (fun _ d c1 => isInt d fun i => inM i (Q .fr (.lst (rngD 0 i.toNat)) c1)) X) : wpE (evLRg fa c) Q X := by
  unfold evLRg
  refine wE_bind (h.imp fun k d c1 q => ?_)
  obtain ⟨i, rfl, ⟨h1, h2⟩, h3⟩ := q
  dsimp only
  rw [if_pos h1]
  unfold gLRg
  dsimp only
  rw [if_pos (show i ≤ (big : Int) from h2)]
  exact ⟨h3⟩
theorem wE_TRg (h : wpE (fa c) (fun _ d c1 => isInt d fun i => inM i (Q .st (.tup (rngD 0 i.toNat)) c1)) X) : wpE (evTRg fa c) Q X := by
  unfold evTRg
  refine wE_bind (h.imp fun k d c1 q => ?_)
  obtain ⟨i, rfl, ⟨h1, h2⟩, h3⟩ := q
  dsimp only
  rw [if_pos h1]
  unfold gTRg
  dsimp only
  rw [if_pos (show i ≤ (big : Int) from h2)]
  exact ⟨h3⟩
/-! statements -/
theorem toS_w {r : ER} {K : Kd → D → Cfg → SR} (h : wpE r (fun k d c1 => wpS (K k d c1) ⟨N, R, BB, CC, X⟩) X) : wpS (r.toS K) ⟨N, R, BB, CC, X⟩ := by
  cases r with
  | ok k d c1 => exact h.h
  | exc x W => exact h
  | bad => exact h
theorem wS_seq (h : wpS (f c) ⟨fun c1 => wpS (g c1) ⟨N, R, BB, CC, X⟩, R, BB, CC, X⟩) : wpS (sSeq f g c) ⟨N, R, BB, CC, X⟩ := by
  unfold sSeq
  cases e : f c with
  | nx c1 => rw [e] at h; exact h.h
  | ret fr d W => rw [e] at h; exact h
  | brk c1 => rw [e] at h; exact h
  | cnt c1 => rw [e] at h; exact h
  | exc x W => rw [e] at h; exact h
  | bad => rw [e] at h; exact h
theorem wS_nil (q : N c) : wpS (sNil c) ⟨N, R, BB, CC, X⟩ := ⟨q⟩
theorem wS_putS {r' : List (Option (Bool × D))} (h : i < r.length) (hr : r.set i (some (false, d)) = r') (q : N ⟨r', W⟩) : wpS (putK i .st d ⟨r, W⟩) ⟨N, R, BB, CC, X⟩ := by
  subst hr
  unfold putK
  rw [if_pos h]
  exact ⟨q⟩
theorem wS_putF {r' : List (Option (Bool × D))} (h : i < r.length) (hr : r.set i (some (true, d)) = r') (q : N ⟨r', W⟩) : wpS (putK i .fr d ⟨r, W⟩) ⟨N, R, BB, CC, X⟩ := by
  subst hr
  unfold putK
  rw [if_pos h]
  exact ⟨q⟩
theorem wS_set (h : wpE (fa c) (fun k d c1 => wpS (putK i k d c1) ⟨N, R, BB, CC, X⟩) X) : wpS (sSet i fa c) ⟨N, R, BB, CC, X⟩ := toS_w h
theorem wS_drop (h : wpE (fa c) (fun k d c1 => N c1) X) : wpS (sDrop fa c) ⟨N, R, BB, CC, X⟩ := toS_w (h.imp fun _ _ _ q => ⟨q⟩)
def retK (R : QR) (k : Kd) (d : D) (c : Cfg) : Prop := k ≠ .bo ∧ R (match k with | .fr => true | _ => false) d c.W
theorem ret_st {R : QR} (q : R false d W) : retK R .st d ⟨r, W⟩ := ⟨st_nb, q⟩
theorem ret_fr {R : QR} (q : R true d W) : retK R .fr d ⟨r, W⟩ := ⟨fr_nb, q⟩
theorem wS_ret (h : wpE (fa c) (retK R) X) : wpS (sRet fa c) ⟨N, R, BB, CC, X⟩ := by
  unfold sRet
  refine toS_w (h.imp fun k d c1 q => ?_)
  cases k with
  | st => exact ⟨q.2⟩
  | fr => exact ⟨q.2⟩
  | bo => exact absurd rfl q.1
theorem wS_retN (h : R false .non c.W) : wpS (sRetN c) ⟨N, R, BB, CC, X⟩ := ⟨h⟩
theorem wS_if (h : wpE (ft c) (fun _ d c1 => onBl d (wpS (f c1) ⟨N, R, BB, CC, X⟩) (wpS (g c1) ⟨N, R, BB, CC, X⟩)) X) : wpS (sIf ft f g c) ⟨N, R, BB, CC, X⟩ := by
  unfold sIf
  refine toS_w (h.imp fun k d c1 q => ?_)
  obtain ⟨b, rfl, h1, h2⟩ := q
  cases b with
  | true => exact h1 rfl
  | false => exact h2 rfl
theorem wS_brk (q : BB c) : wpS (sBrk c) ⟨N, R, BB, CC, X⟩ := ⟨q⟩
theorem wS_cnt (q : CC c) : wpS (sCnt c) ⟨N, R, BB, CC, X⟩ := ⟨q⟩
def appK (i : Nat) (N : QC) (k : Kd) (d : D) (c1 : Cfg) : Prop := k ≠ .bo ∧ ∃ ds, ownL c1 i = some ds ∧ ds.length < 1000000 ∧ ∃ r', c1.r.set i (some (true, .lst (ds ++ [d]))) = r' ∧ N ⟨r', c1.W⟩
theorem app_st {r' : List (Option (Bool × D))} (hk : k ≠ .bo) (h1 : ownL ⟨r, W⟩ i = some ds) (h2 : ds.length < 1000000) (h3 : r.set i (some (true, .lst (ds ++ [d]))) = r') (q : N ⟨r', W⟩) : appK i N k d ⟨r, W⟩ := ⟨hk, ds, h1, h2, r', h3, q⟩
theorem wS_app (h0 : (ownL c i).isSome) (h : wpE (fe c) (appK i N) X) : wpS (sApp i fe c) ⟨N, R, BB, CC, X⟩ := by
  unfold sApp
  rw [if_pos h0]
  refine toS_w (h.imp fun k d c1 q => ?_)
  obtain ⟨h1, ds, e, hl, r', rfl, q1⟩ := q
  have key : wpS (match ownL c1 i with
    | some ds => if ds.length < big then .nx (c1.put i (some (true, .lst (ds ++ [d])))) else .bad
    | none => .bad) ⟨N, R, BB, CC, X⟩ := by
    rw [e]
    dsimp only
    rw [if_pos (show ds.length < big from hl)]
    exact ⟨q1⟩
  cases k with
  | bo => exact absurd rfl h1
  | st => exact key
  | fr => exact key
def ownK (c : Cfg) (i : Nat) (P : Prop) : Prop := (ownL c i).isSome = true ∧ P
theorem own_i {P : Prop} (h : (ownL c i).isSome = true) (q : P) : ownK c i P := ⟨h, q⟩
def putIK (i : Nat) (d : D) (N : QC) (di : D) (c2 : Cfg) : Prop := ∃ (n : Int) (ds : List D) (j : Nat), di = .int n ∧ ownL c2 i = some ds ∧ L2.ixN ds.length n = some j ∧ ∃ r', c2.r.set i (some (true, .lst (ds.set j d))) = r' ∧ N ⟨r', c2.W⟩
theorem putI_st {r' : List (Option (Bool × D))} {n : Int} (h1 : ownL ⟨r, W⟩ i = some ds) (h2 : L2.ixN ds.length n = some j) (h3 : r.set i (some (true, .lst (ds.set j d))) = r') (q : N ⟨r', W⟩) : putIK i d N (.int n) ⟨r, W⟩ := ⟨n, ds, j, rfl, h1, h2, r', h3, q⟩
theorem wS_putI {fi : EF} (h : wpE (fe c) (fun k d c1 => k ≠ .bo ∧ ownK c1 i (wpE (fi c1) (fun _ di c2 => putIK i d N di c2) X)) X) : wpS (sPutI i fi fe c) ⟨N, R, BB, CC, X⟩ := by
  unfold sPutI
  refine toS_w (h.imp fun k d c1 q => ?_)
  obtain ⟨h1, h2, h3⟩ := q
  have key : wpS (if (ownL c1 i).isSome then (fi c1).toS (fun _ di c2 => match di, ownL c2 i with
    | .int n, some ds => match ixN ds.length n with
      | some j => .nx (c2.put i (some (true, .lst (ds.set j d))))
      | none => .bad
    | _, _ => .bad) else .bad) ⟨N, R, BB, CC, X⟩ := by
    rw [if_pos h2]
    refine toS_w (h3.imp fun k2 d2 c2 q2 => ?_)
    obtain ⟨n, ds, j, rfl, e1, e2, r', rfl, q3⟩ := q2
    rw [e1]
    dsimp only
    rw [e2]
    exact ⟨q3⟩
  cases k with
  | bo => exact absurd rfl h1
  | st => exact key
  | fr => exact key
theorem wS_parK (h : wpE (fa c) (fun k1 d1 c1 => wpE (fb c1) (fun k2 d2 c2 => wpS (putK i k1 d1 c2) ⟨fun c3 => wpS (putK j k2 d2 c3) ⟨N, R, BB, CC, X⟩, R, BB, CC, X⟩) X) X) : wpS (sParK i j fa fb c) ⟨N, R, BB, CC, X⟩ := by
  unfold sParK
  refine toS_w (h.imp fun k d c1 q => toS_w (q.imp fun k2 d2 c2 q2 => ?_))
  cases e : putK i k d c2 with
  | nx c1 => rw [e] at q2; exact q2.h
  | ret fr d W => rw [e] at q2; exact q2
  | brk c1 => rw [e] at q2; exact q2
  | cnt c1 => rw [e] at q2; exact q2
  | exc x W => rw [e] at q2; exact q2
  | bad => rw [e] at q2; exact q2
def par3K (i j l : Nat) (N : QC) (ds : List D) (c1 : Cfg) : Prop := ∃ d1 d2 d3, ds = [d1, d2, d3] ∧ (i < c1.r.length ∧ j < c1.r.length ∧ l < c1.r.length) ∧ ∃ r', ((c1.r.set i (some (false, d1))).set j (some (false, d2))).set l (some (false, d3)) = r' ∧ N ⟨r', c1.W⟩
theorem par3_st {l : Nat} {d3 : D} {r1 r2 r3 : List (Option (Bool × D))} (hi : i < r.length) (hj : j < r.length) (hl : l < r.length) (h1 : r.set i (some (false, d1)) = r1) (h2 : r1.set j (some (false, d2)) = r2) (h3 : r2.set l (some (false, d3)) = r3) (q : N ⟨r3, W⟩) : par3K i j l N [d1, d2, d3] ⟨r, W⟩ := ⟨d1, d2, d3, rfl, ⟨hi, hj, hl⟩, r3, by rw [h1, h2, h3], q⟩
theorem wS_par3 {l : Nat} (h : wpA (ga c) (par3K i j l N) X) : wpS (sPar3 i j l ga c) ⟨N, R, BB, CC, X⟩ := by
  unfold sPar3
  cases e : ga c with
  | ok ds c1 =>
    rw [e] at h
    obtain ⟨d1, d2, d3, rfl, hl, r', rfl, q⟩ := h
    dsimp only
    rw [if_pos hl]
    exact ⟨q⟩
  | exc x W => rw [e] at h; exact h
  | bad => rw [e] at h; exact h
theorem wS_asg {tgt : D → Cfg → Option Cfg} (h : wpE (fe c) (fun k d c1 => k ≠ .bo ∧ wpC (tgt d c1) N) X) : wpS (sAsg tgt fe c) ⟨N, R, BB, CC, X⟩ := by
  unfold sAsg
  refine toS_w (h.imp fun k d c1 q => ?_)
  obtain ⟨h1, c2, e, q2⟩ := q
  cases k with
  | bo => exact absurd rfl h1
  | st => dsimp only; rw [e]; exact ⟨q2⟩
  | fr => dsimp only; rw [e]; exact ⟨q2⟩
theorem wC_name {QC' : QC} {r' : List (Option (Bool × D))} (h : i < r.length) (hr : r.set i (some (false, d)) = r') (q : QC' ⟨r', W⟩) : wpC (tgN i d ⟨r, W⟩) QC' := by
  subst hr
  exact ⟨_, if_pos h, q⟩
theorem wC_tup {QC' : QC} {g : List D → Cfg → Option Cfg} (hd : tupD d = some ds) (h : ds.length = n) (q : wpC (g ds c) QC') : wpC (tgTup n g d c) QC' := by
  rw [tupD_eq hd]
  unfold tgTup
  dsimp only
  rw [if_pos h]
  exact q
theorem wC_unl {QC' : QC} {g : List D → Cfg → Option Cfg} (hd : lstD d = some ds) (h : ds.length = n) (q : wpC (g ds c) QC') : wpC (tgUnl n g d c) QC' := by
  rw [lstD_eq hd]
  unfold tgUnl
  dsimp only
  rw [if_pos h]
  exact q
theorem wC_nil {QC' : QC} (q : QC' c) : wpC (tgNil [] c) QC' := ⟨c, rfl, q⟩
theorem wC_cons {QC' : QC} {f : D → Cfg → Option Cfg} {g : List D → Cfg → Option Cfg} (h : wpC (f d c) (fun c1 => wpC (g ds c1) QC')) : wpC (tgCons f g (d :: ds) c) QC' := by
  obtain ⟨c1, e, c2, e2, q⟩ := h
  refine ⟨c2, ?_, q⟩
  unfold tgCons
  dsimp only
  rw [e]
  exact e2
def appPopK (i j : Nat) (N : QC) (d : D) (c1 : Cfg) : Prop := ∃ (n : Int) (ds : List D) (m : Nat) (e : D), d = .int n ∧ ownL c1 j = some ds ∧ ds.length ≤ 1000000 ∧ L2.ixN ds.length n = some m ∧ ds[m]? = some e ∧ ∃ r1, c1.r.set j (some (true, .lst (ds.eraseIdx m))) = r1 ∧ ∃ es, ownL ⟨r1, c1.W⟩ i = some es ∧ es.length < 1000000 ∧ ∃ r2, r1.set i (some (true, .lst (es ++ [e]))) = r2 ∧ N ⟨r2, c1.W⟩
theorem appPop_st {n : Int} {m : Nat} {e : D} {es : List D} {r1 r2 : List (Option (Bool × D))} (h1 : ownL ⟨r, W⟩ j = some ds) (h2 : ds.length ≤ 1000000) (h3 : L2.ixN ds.length n = some m) (h4 : ds[m]? = some e) (h5 : r.set j (some (true, .lst (ds.eraseIdx m))) = r1) (h6 : ownL ⟨r1, W⟩ i = some es) (h7 : es.length < 1000000) (h8 : r1.set i (some (true, .lst (es ++ [e]))) = r2) (q : N ⟨r2, W⟩) : appPopK i j N (.int n) ⟨r, W⟩ := ⟨n, ds, m, e, rfl, h1, h2, h3, h4, r1, h5, es, h6, h7, r2, h8, q⟩
theorem wS_appPop (h0 : (ownL c i).isSome) (h1 : (ownL c j).isSome) (h : wpE (fe c) (fun _ d c1 => appPopK i j N d c1) X) : wpS (sAppPop i j fe c) ⟨N, R, BB, CC, X⟩ := by
  unfold sAppPop
  rw [if_pos h0]
  unfold sPopAt
  rw [if_pos h1]
  refine toS_w (h.imp fun k d c1 q => ?_)
  obtain ⟨n, ds, m, e, rfl, e1, hl, e2, e3, r1, rfl, es, e4, hl2, r2, rfl, q⟩ := q
  have hp : popAt j (.int n) c1 = some (e, c1.put j (some (true, .lst (ds.eraseIdx m)))) := by
    unfold popAt
    rw [e1]
    dsimp only
    rw [if_pos (show ds.length ≤ big from hl), e2]
    dsimp only
    rw [e3]
  rw [hp]
  dsimp only
  have e4' : ownL (c1.put j (some (true, .lst (ds.eraseIdx m)))) i = some es := e4
  rw [e4']
  dsimp only
  rw [if_pos (show es.length < big from hl2)]
  exact ⟨q⟩
def swapK (i : Nat) (f1 f2 : EF) (N : QC) (X : QX) (ds : List D) (c1 : Cfg) : Prop := ∃ d1 d2, ds = [d1, d2] ∧ ownK c1 i (wpE (f1 c1) (fun _ di c2 => putIK i d1 (fun c3 => ownK c3 i (wpE (f2 c3) (fun _ dj c4 => putIK i d2 N dj c4) X)) di c2) X)
theorem swap_i {f1 f2 : EF} (h : ownK c i (wpE (f1 c) (fun _ di c2 => putIK i d1 (fun c3 => ownK c3 i (wpE (f2 c3) (fun _ dj c4 => putIK i d2 N dj c4) X)) di c2) X)) : swapK i f1 f2 N X [d1, d2] c := ⟨d1, d2, rfl, h⟩
theorem wS_swapI {f1 f2 : EF} (h : wpA (ga c) (swapK i f1 f2 N X) X) : wpS (sSwapI i ga f1 f2 c) ⟨N, R, BB, CC, X⟩ := by
  unfold sSwapI
  cases e : ga c with
  | exc x W => rw [e] at h; exact h
  | bad => rw [e] at h; exact h
  | ok ds c1 =>
    rw [e] at h
    obtain ⟨d1, d2, rfl, h1, h2⟩ := h
    dsimp only
    rw [if_pos h1]
    refine toS_w (h2.imp fun k di c2 q => ?_)
    obtain ⟨n, es, m, rfl, e1, e2, r1, rfl, h3, h4⟩ := q
    have hp : putAt i d1 (.int n) c2 = some (c2.put i (some (true, .lst (es.set m d1)))) := by
      unfold putAt
      rw [e1]
      dsimp only
      rw [e2]
    rw [hp]
    dsimp only
    have h3' : (ownL (c2.put i (some (true, .lst (es.set m d1)))) i).isSome := h3
    rw [if_pos h3']
    refine toS_w (h4.imp fun k dj c4 q => ?_)
    obtain ⟨n', es', m', rfl, e3, e4, r2, rfl, h5⟩ := q
    have hp2 : putAt i d2 (.int n') c4 = some (c4.put i (some (true, .lst (es'.set m' d2)))) := by
      unfold putAt
      rw [e3]
      dsimp only
      rw [e4]
    rw [hp2]
    exact ⟨h5⟩
/-! what is walked -/
def itK (QL : QA) (k : Kd) (d : D) (c1 : Cfg) : Prop := k ≠ .bo ∧ ∃ ds, (d = .lst ds ∨ d = .tup ds) ∧ QL ds c1
theorem it_seq (hk : k ≠ .bo) (hd : seqD d = some ds) (q : QL ds c) : itK QL k d c := ⟨hk, ds, seqD_eq hd, q⟩
theorem wA_it (h : wpE (fe c) (itK QL) X) : wpA (evIt fe c) QL X := by
  unfold evIt
  cases e : fe c with
  | ok k d c1 =>
    rw [e] at h
    obtain ⟨h1, ds, hd, q⟩ := h
    cases k with
    | bo => exact absurd rfl h1
    | st => rcases hd with rfl | rfl <;> exact ⟨q⟩
    | fr => rcases hd with rfl | rfl <;> exact ⟨q⟩
  | exc x W => rw [e] at h; exact h
  | bad => rw [e] at h; exact h
def enK (QL : QA) (ds : List D) (c1 : Cfg) : Prop := ∃ es, (ds = [.lst es] ∨ ds = [.tup es]) ∧ QL (enumD 0 es) c1
theorem en_seq (hd : seqD d = some ds) (q : QL (enumD 0 ds) c) : enK QL [d] c := ⟨ds, by rcases seqD_eq hd with rfl | rfl <;> simp, q⟩
theorem wA_en (h : wpA (ga c) (enK QL) X) : wpA (evEn ga c) QL X := by
  unfold evEn
  cases e : ga c with
  | ok ds c1 =>
    rw [e] at h
    obtain ⟨es, hd, q⟩ := h
    rcases hd with rfl | rfl <;> exact ⟨q⟩
  | exc x W => rw [e] at h; exact h
  | bad => rw [e] at h; exact h
theorem wA_R1 (h : wpE (fe c) (fun _ d c1 => isInt d fun i => in62 i (QL (rngD 0 i.toNat) c1)) X) : wpA (evR1 fe c) QL X := by
  unfold evR1
  cases e : fe c with
  | ok k d c1 =>
    rw [e] at h
    obtain ⟨i, rfl, h1, q⟩ := h
    have : rOk i = true := by unfold rOk; rw [Bool.and_eq_true]; exact ⟨decide_eq_true h1.1, decide_eq_true h1.2⟩
    dsimp only
    rw [if_pos this]
    exact ⟨q⟩
  | exc x W => rw [e] at h; exact h
  | bad => rw [e] at h; exact h
theorem wA_R2 (h : wpE (fa c) (fun _ d c1 => isInt d fun i => in62 i (wpE (fb c1) (fun _ d2 c2 => isInt d2 fun j => in62 j (QL (rngD i (j - i).toNat) c2)) X)) X) : wpA (evR2 fa fb c) QL X := by
  unfold evR2
  cases e : fa c with
  | ok k d c1 =>
    rw [e] at h
    obtain ⟨i, rfl, h1, h2⟩ := h
    dsimp only
    cases e2 : fb c1 with
    | ok k2 d2 c2 =>
      rw [e2] at h2
      obtain ⟨j, rfl, h3, q⟩ := h2
      have h5 : rOk i = true := by unfold rOk; rw [Bool.and_eq_true]; exact ⟨decide_eq_true h1.1, decide_eq_true h1.2⟩
      have h6 : rOk j = true := by unfold rOk; rw [Bool.and_eq_true]; exact ⟨decide_eq_true h3.1, decide_eq_true h3.2⟩
      dsimp only
      rw [h5, h6]
      exact ⟨q⟩
    | exc x W => rw [e2] at h2; exact h2
    | bad => rw [e2] at h2; exact h2
  | exc x W => rw [e] at h; exact h
  | bad => rw [e] at h; exact h
/-! loops -/
theorem wS_for {tgt : D → Cfg → Option Cfg} (h : wpA (it c) (fun ds c1 => wpS (goFor tgt body ds c1) ⟨N, R, BB, CC, X⟩) X) : wpS (sFor it tgt body c) ⟨N, R, BB, CC, X⟩ := by
  unfold sFor
  cases e : it c with
  | ok ds c1 => rw [e] at h; exact h.h
  | exc x W => rw [e] at h; exact h
  | bad => rw [e] at h; exact h
theorem for_cons {tgt : D → Cfg → Option Cfg} (h : wpC (tgt d c) fun c1 => wpS (body c1) ⟨fun c2 => wpS (goFor tgt body ds c2) ⟨N, R, BB, CC, X⟩, R, N, fun c2 => wpS (goFor tgt body ds c2) ⟨N, R, BB, CC, X⟩, X⟩) : wpS (goFor tgt body (d :: ds) c) ⟨N, R, BB, CC, X⟩ := by
  obtain ⟨c1, e, q⟩ := h
  unfold goFor
  rw [e]
  dsimp only
  cases e2 : body c1 with
  | nx c1 => rw [e2] at q; exact q.h
  | ret fr d W => rw [e2] at q; exact q
  | brk c1 => rw [e2] at q; exact q
  | cnt c1 => rw [e2] at q; exact q.h
  | exc x W => rw [e2] at q; exact q
  | bad => rw [e2] at q; exact q
theorem for_nil {tgt : D → Cfg → Option Cfg} (q : N c) : wpS (goFor tgt body [] c) ⟨N, R, BB, CC, X⟩ := ⟨q⟩
/-- by an invariant over what is done and what is left -/
theorem for_inv {α : Type} {tgt : D → Cfg → Option Cfg} (e : α → D) (xs : List α) (I : List α → List α → Cfg → Prop) (h0 : I [] xs c)
    (hs : ∀ done x rest c, xs = done ++ x :: rest → I done (x :: rest) c → wpC (tgt (e x) c) fun c1 => wpS (body c1) ⟨I (done ++ [x]) rest, R, N, I (done ++ [x]) rest, X⟩)
    (hq : ∀ c, I xs [] c → N c) : wpS (goFor tgt body (xs.map e) c) ⟨N, R, BB, CC, X⟩ := by
  have key : ∀ (rest done : List α) (c : Cfg), xs = done ++ rest → I done rest c → wpS (goFor tgt body (rest.map e) c) ⟨N, R, BB, CC, X⟩ := by
    intro rest
    induction rest with
    | nil =>
      intro done c hx hI
      rw [List.append_nil] at hx
      subst hx
      exact ⟨hq c hI⟩
    | cons x rest ih =>
      intro done c hx hI
      rw [List.map_cons]
      refine for_cons ?_
      have h1 := hs done x rest c hx hI
      obtain ⟨c1, e1, q⟩ := h1
      refine ⟨c1, e1, ?_⟩
      dsimp only
      have hn : ∀ c2, I (done ++ [x]) rest c2 → wpS (goFor tgt body (rest.map e) c2) ⟨N, R, BB, CC, X⟩ := fun c2 h => ih (done ++ [x]) c2 (by rw [hx]; simp) h
      cases e2 : body c1 with
      | nx c1 => rw [e2] at q; exact ⟨hn _ q.h⟩
      | ret fr d W => rw [e2] at q; exact q
      | brk c1 => rw [e2] at q; exact q
      | cnt c1 => rw [e2] at q; exact ⟨hn _ q.h⟩
      | exc x W => rw [e2] at q; exact q
      | bad => rw [e2] at q; exact q
  exact key xs [] c rfl h0
theorem enum_map {α : Type} (e : α → D) : ∀ (xs : List α) (k : Nat), enumD k (xs.map e) = (xs.zipIdx k).map fun p => .tup [.int (p.2 : Nat), e p.1]
  | [], k => rfl
  | x :: xs, k => by
    rw [List.map_cons, List.zipIdx_cons, List.map_cons]
    unfold enumD
    rw [enum_map e xs (k + 1)]
theorem for_enum {α : Type} {tgt : D → Cfg → Option Cfg} (e : α → D) (xs : List α) (I : List α → List α → Cfg → Prop) (h0 : I [] xs c)
    (hs : ∀ done x rest c, xs = done ++ x :: rest → I done (x :: rest) c → wpC (tgt (.tup [.int (done.length : Nat), e x]) c) fun c1 => wpS (body c1) ⟨I (done ++ [x]) rest, R, N, I (done ++ [x]) rest, X⟩)
    (hq : ∀ c, I xs [] c → N c) : wpS (goFor tgt body (enumD 0 (xs.map e)) c) ⟨N, R, BB, CC, X⟩ := by
  have key : ∀ (rest done : List α) (c : Cfg), xs = done ++ rest → I done rest c → wpS (goFor tgt body (enumD done.length (rest.map e)) c) ⟨N, R, BB, CC, X⟩ := by
    intro rest
    induction rest with
    | nil =>
      intro done c hx hI
      rw [List.append_nil] at hx
      subst hx
      exact ⟨hq c hI⟩
    | cons x rest ih =>
      intro done c hx hI
      rw [List.map_cons]
      unfold enumD
      refine for_cons ?_
      have h1 := hs done x rest c hx hI
      obtain ⟨c1, e1, q⟩ := h1
      refine ⟨c1, e1, ?_⟩
      dsimp only
      have hn : ∀ c2, I (done ++ [x]) rest c2 → wpS (goFor tgt body (enumD (done.length + 1) (rest.map e)) c2) ⟨N, R, BB, CC, X⟩ := fun c2 h => by
        have := ih (done ++ [x]) c2 (by rw [hx]; simp) h
        rw [List.length_append] at this
        exact this
      cases e2 : body c1 with
      | nx c1 => rw [e2] at q; exact ⟨hn _ q.h⟩
      | ret fr d W => rw [e2] at q; exact q
      | brk c1 => rw [e2] at q; exact q
      | cnt c1 => rw [e2] at q; exact ⟨hn _ q.h⟩
      | exc x W => rw [e2] at q; exact q
      | bad => rw [e2] at q; exact q
  exact key xs [] c rfl h0
theorem for_rng {tgt : D → Cfg → Option Cfg} {lo : Int} (n : Nat) (I : Nat → Cfg → Prop) (h0 : I 0 c)
    (hs : ∀ k c, k < n → I k c → wpC (tgt (.int (lo + (k : Int))) c) fun c1 => wpS (body c1) ⟨I (k + 1), R, N, I (k + 1), X⟩)
    (hq : ∀ c, I n c → N c) : wpS (goFor tgt body (rngD lo n) c) ⟨N, R, BB, CC, X⟩ := by
  unfold rngD
  refine for_inv (fun i : Nat => D.int (lo + (i : Int))) (List.range n) (fun done rest c => I done.length c) h0 (fun done x rest c hx hI => ?_) (fun c hI => hq c (by simpa using hI))
  have hl : done.length < n := by
    have := congrArg List.length hx
    simp at this
    omega
  have hxv : x = done.length := by
    have h1 : (List.range n)[done.length]? = some x := by rw [hx]; simp
    rw [List.getElem?_range hl] at h1
    exact (Option.some.inj h1).symm
  subst hxv
  have := hs done.length c hl hI
  simp only [List.length_append, List.length_singleton]
  exact this
/-- a while loop by a measure -/
theorem wS_while {fuel : Cfg → Nat} (I : Cfg → Prop) (m : Cfg → Nat) (h0 : I c) (hm : m c < fuel c)
    (hs : ∀ c, I c → wpE (ft c) (fun _ d c1 => onBl d (wpS (body c1) ⟨fun c2 => I c2 ∧ m c2 < m c, R, N, fun c2 => I c2 ∧ m c2 < m c, X⟩) (N c1)) X) : wpS (sWhile fuel ft body c) ⟨N, R, BB, CC, X⟩ := by
  unfold sWhile
  have key : ∀ (n : Nat) (c : Cfg), I c → m c < n → wpS (goWhile ft body n c) ⟨N, R, BB, CC, X⟩ := by
    intro n
    induction n with
    | zero => exact fun c _ h => absurd h (Nat.not_lt_zero _)
    | succ n ih =>
      intro c hI hl
      unfold goWhile
      refine toS_w ((hs c hI).imp fun k d c1 q => ?_)
      obtain ⟨b, rfl, h1, h2⟩ := q
      cases b with
      | false => exact ⟨h2 rfl⟩
      | true =>
        have q := h1 rfl
        dsimp only
        cases e2 : body c1 with
        | nx c2 => rw [e2] at q; exact ih c2 q.h.1 (by have := q.h.2; omega)
        | ret fr d W => rw [e2] at q; exact q
        | brk c2 => rw [e2] at q; exact q
        | cnt c2 => rw [e2] at q; exact ih c2 q.h.1 (by have := q.h.2; omega)
        | exc x W => rw [e2] at q; exact q
        | bad => rw [e2] at q; exact q
  exact key (fuel c) c h0 hm
/-! comprehensions -/
def lcM (tgt : D → Cfg → Option Cfg) (vs : List Nat) (ft fe : EF) (Q : QE) (ds : List D) (c : Cfg) : Prop := ∃ rs c2, goLc tgt vs ft fe ds [] c = .ok rs c2 ∧ Q .fr (.lst rs) c2
theorem wE_lc {tgt : D → Cfg → Option Cfg} {vs : List Nat} (h : wpA (it c) (lcM tgt vs ft fe Q) X) : wpE (evLc it tgt vs ft fe c) Q X := by
  unfold evLc
  cases e : it c with
  | ok ds c1 =>
    rw [e] at h
    obtain ⟨rs, c2, e2, q⟩ := h
    dsimp only
    rw [e2]
    exact ⟨q⟩
  | exc x W => rw [e] at h; exact h
  | bad => rw [e] at h; exact h
theorem lc_inv {α : Type} {tgt : D → Cfg → Option Cfg} {vs : List Nat} (e : α → D) (t : α → Bool) (v : α → D) (I : Cfg → Prop) (xs : List α) (hl : xs.length ≤ 1000000) (h0 : I c)
    (hs : ∀ x ∈ xs, ∀ c, I c → wpC (tgt (e x) (c.wipe vs)) fun c1 => wpE (ft c1) (fun _ d c2 => d = .bl (t x) ∧ (t x = false → I (Cfg.mrg vs c c2)) ∧ (t x = true → wpE (fe c2) (fun k d' c3 => k ≠ .bo ∧ d' = v x ∧ I (Cfg.mrg vs c c3)) fun _ _ => False)) fun _ _ => False) :
    ∃ c2, goLc tgt vs ft fe (xs.map e) [] c = .ok ((xs.filter t).map v) c2 ∧ I c2 := by
  have key : ∀ (xs : List α) (acc : List D) (c : Cfg), acc.length + xs.length ≤ 1000000 → I c → (∀ x ∈ xs, ∀ c, I c → wpC (tgt (e x) (c.wipe vs)) fun c1 => wpE (ft c1) (fun _ d c2 => d = .bl (t x) ∧ (t x = false → I (Cfg.mrg vs c c2)) ∧ (t x = true → wpE (fe c2) (fun k d' c3 => k ≠ .bo ∧ d' = v x ∧ I (Cfg.mrg vs c c3)) fun _ _ => False)) fun _ _ => False) →
      ∃ c2, goLc tgt vs ft fe (xs.map e) acc c = .ok (acc ++ (xs.filter t).map v) c2 ∧ I c2 := by
    intro xs
    induction xs with
    | nil => exact fun acc c _ h _ => ⟨c, by simp [goLc], h⟩
    | cons x xs ih =>
      intro acc c hl h0 hs
      obtain ⟨c1, e1, q⟩ := hs x List.mem_cons_self c h0
      have hr := fun y hy => hs y (List.mem_cons_of_mem _ hy)
      rw [List.map_cons]
      unfold goLc
      rw [e1]
      dsimp only
      cases e2 : ft c1 with
      | exc x W => rw [e2] at q; exact q.h.elim
      | bad => rw [e2] at q; exact q.h.elim
      | ok k d c2 =>
        rw [e2] at q
        obtain ⟨rfl, q1, q2⟩ := q
        cases ht : t x with
        | false =>
          dsimp only
          rw [List.filter_cons_of_neg (by simp [ht])]
          exact ih acc _ (by simp at hl; omega) (q1 ht) hr
        | true =>
          have q3 := q2 ht
          dsimp only
          rw [List.filter_cons_of_pos ht, List.map_cons]
          cases e3 : fe c2 with
          | exc x W => rw [e3] at q3; exact q3.h.elim
          | bad => rw [e3] at q3; exact q3.h.elim
          | ok k d' c3 =>
            rw [e3] at q3
            obtain ⟨h1, rfl, q4⟩ := q3
            have hb : acc.length < big := by show acc.length < 1000000; simp at hl; omega
            obtain ⟨c4, e4, q5⟩ := ih (acc ++ [v x]) _ (by simp at hl ⊢; omega) q4 hr
            refine ⟨c4, ?_, q5⟩
            cases k with
            | bo => exact absurd rfl h1
            | st =>
              dsimp only
              rw [if_pos hb, e4]
              simp
            | fr =>
              dsimp only
              rw [if_pos hb, e4]
              simp
  exact key xs [] c (by simpa using hl) h0 hs
/-- the same, as it is used -/
theorem lc_use {α : Type} {tgt : D → Cfg → Option Cfg} {vs : List Nat} (e : α → D) (t : α → Bool) (v : α → D) (I : Cfg → Prop) {xs : List α} (hl : xs.length ≤ 1000000) (h0 : I c)
    (hs : ∀ x ∈ xs, ∀ c, I c → wpC (tgt (e x) (c.wipe vs)) fun c1 => wpE (ft c1) (fun _ d c2 => d = .bl (t x) ∧ (t x = false → I (Cfg.mrg vs c c2)) ∧ (t x = true → wpE (fe c2) (fun k d' c3 => k ≠ .bo ∧ d' = v x ∧ I (Cfg.mrg vs c c3)) fun _ _ => False)) fun _ _ => False)
    (hq : ∀ c2, I c2 → Q .fr (.lst ((xs.filter t).map v)) c2) : lcM tgt vs ft fe Q (xs.map e) c := by
  obtain ⟨c2, h1, h2⟩ := lc_inv (tgt := tgt) (vs := vs) (ft := ft) (fe := fe) e t v I xs hl h0 hs
  exact ⟨_, c2, h1, hq c2 h2⟩
/-- without a test, the slots but the walked ones as they were -/
theorem lc_all {α : Type} {tgt : D → Cfg → Option Cfg} {vs : List Nat} (e : α → D) (v : α → D) (I : Cfg → Prop) {xs : List α} (hl : xs.length ≤ 1000000) (h0 : I c)
    (hs : ∀ x ∈ xs, ∀ c, I c → wpC (tgt (e x) (c.wipe vs)) fun c1 => wpE (fe c1) (fun k d' c3 => k ≠ .bo ∧ d' = v x ∧ I (Cfg.mrg vs c c3)) fun _ _ => False)
    (hq : ∀ c2, I c2 → Q .fr (.lst (xs.map v)) c2) : lcM tgt vs (evC (.bl true)) fe Q (xs.map e) c := by
  refine lc_use e (fun _ => true) v I hl h0 (fun x hx c hc => ?_) (fun c2 h => by
    rw [List.filter_eq_self.mpr (fun _ _ => rfl)]
    exact hq c2 h)
  obtain ⟨c1, e1, q⟩ := hs x hx c hc
  exact ⟨c1, e1, rfl, (fun z => by cases z), fun _ => q⟩
/-! marks: what is found by computing -/
def vM (i : Nat) (c : Cfg) (Q : QE) (X : QX) : Prop := wpE (evV i c) Q X
def bM (i : Nat) (c : Cfg) (Q : QE) (X : QX) : Prop := wpE (evB i c) Q X
def mM (i : Nat) (c : Cfg) (Q : QE) (X : QX) : Prop := wpE (evM i c) Q X
def pMs (i : Nat) (d : D) (c : Cfg) (Q : QS) : Prop := wpS (putK i .st d c) Q
def pMf (i : Nat) (d : D) (c : Cfg) (Q : QS) : Prop := wpS (putK i .fr d c) Q
def tM (i : Nat) (d : D) (c : Cfg) (Q : QC) : Prop := wpC (tgN i d c) Q
theorem v_M (h : vM i c Q X) : wpE (evV i c) Q X := h
theorem b_M (h : bM i c Q X) : wpE (evB i c) Q X := h
theorem m_M (h : mM i c Q X) : wpE (evM i c) Q X := h
theorem p_Ms {QQ : QS} (h : pMs i d c QQ) : wpS (putK i .st d c) QQ := h
theorem p_Mf {QQ : QS} (h : pMf i d c QQ) : wpS (putK i .fr d c) QQ := h
theorem t_M (h : tM i d c N) : wpC (tgN i d c) N := h
theorem vM_s (h : r[i]? = some (some (false, d))) (q : Q .st d ⟨r, W⟩) : vM i ⟨r, W⟩ Q X := wE_evV_s h q
theorem vM_o {r' : List (Option (Bool × D))} (h : r[i]? = some (some (true, d))) (hr : r.set i (some (false, d)) = r') (q : Q .st d ⟨r', W⟩) : vM i ⟨r, W⟩ Q X := wE_evV_o h hr q
theorem bM_i (h : r[i]? = some (some (b, d))) (q : Q .bo d ⟨r, W⟩) : bM i ⟨r, W⟩ Q X := wE_evB h q
theorem mM_s (h : r[i]? = some (some (false, d))) (q : Q .st d ⟨r, W⟩) : mM i ⟨r, W⟩ Q X := wE_evM_s h q
theorem mM_o {r' : List (Option (Bool × D))} (h : r[i]? = some (some (true, d))) (hr : r.set i none = r') (q : Q .fr d ⟨r', W⟩) : mM i ⟨r, W⟩ Q X := wE_evM_o h hr q
theorem pM_s {r' : List (Option (Bool × D))} (h : Nat.ble (i + 1) r.length = true) (hr : r.set i (some (false, d)) = r') (q : N ⟨r', W⟩) : pMs i d ⟨r, W⟩ ⟨N, R, BB, CC, X⟩ := wS_putS (Nat.le_of_ble_eq_true h) hr q
theorem pM_f {r' : List (Option (Bool × D))} (h : Nat.ble (i + 1) r.length = true) (hr : r.set i (some (true, d)) = r') (q : N ⟨r', W⟩) : pMf i d ⟨r, W⟩ ⟨N, R, BB, CC, X⟩ := wS_putF (Nat.le_of_ble_eq_true h) hr q
theorem tM_i {r' : List (Option (Bool × D))} (h : Nat.ble (i + 1) r.length = true) (hr : r.set i (some (false, d)) = r') (q : N ⟨r', W⟩) : tM i d ⟨r, W⟩ N := wC_name (Nat.le_of_ble_eq_true h) hr q
/-! a call -/
theorem call_ret {F : FF} (h : F ds W = .ret false d W') (hn : Nat.beq ds.length n = true) (q : Q .st d ⟨r, W'⟩) : callK n F Q X ds ⟨r, W⟩ := call_st hn (wpF_of h q)
theorem call_fr {F : FF} (h : F ds W = .ret true d W') (hn : Nat.beq ds.length n = true) (q : Q .fr d ⟨r, W'⟩) : callK n F Q X ds ⟨r, W⟩ := call_st hn (wpF_of h q)
theorem call_exc {F : FF} {x : XD} (h : F ds W = .exc x W') (hn : Nat.beq ds.length n = true) (q : X x W') : callK n F Q X ds ⟨r, W⟩ := call_st hn (wpF_ofX h q)
def callK2 (n n1 n2 : Nat) (π : List Nat) (F : FF) (Q : QE) (X : QX) (ds es : List D) (c : Cfg) : Prop := ds.length = n1 ∧ es.length = n2 ∧ callK n F Q X (permL π (ds ++ es)) c
theorem wE_callK2 {F : FF} {n1 n2 : Nat} {π : List Nat} {gk : AF} (h : wpA (ga c) (fun ds c1 => wpA (gk c1) (fun es c2 => callK2 n n1 n2 π F Q X ds es c2) X) X) : wpE (evCallK n n1 n2 π F ga gk c) Q X := by
  unfold evCallK
  refine abind_w (h.imp fun ds c1 q => ?_)
  refine abind_w (q.imp fun es c2 q2 => ?_)
  obtain ⟨h1, h3, h4, h5⟩ := q2
  rw [if_pos ⟨h1, h3⟩, if_pos h4]
  cases e : F (permL π (ds ++ es)) c2.W with
  | ret fr d W => rw [e] at h5; exact h5
  | exc x W => rw [e] at h5; exact h5
  | bad => rw [e] at h5; exact h5
theorem call_ret2 {F : FF} {n1 n2 : Nat} {π : List Nat} {es zs : List D} (h : F zs W = .ret false d W') (hz : permL π (ds ++ es) = zs) (h1 : Nat.beq ds.length n1 = true) (h2 : Nat.beq es.length n2 = true) (hn : Nat.beq zs.length n = true) (q : Q .st d ⟨r, W'⟩) : callK2 n n1 n2 π F Q X ds es ⟨r, W⟩ := by
  subst hz
  exact ⟨Nat.eq_of_beq_eq_true h1, Nat.eq_of_beq_eq_true h2, call_ret h hn q⟩
theorem vM_a {r' : List (Option (Bool × D))} (h : r[i]? = some (some (b, d))) (hr : r.set i (some (false, d)) = r') (q : Q .st d ⟨r', W⟩) : vM i ⟨r, W⟩ Q X := by
  cases b with
  | true => exact vM_o h hr q
  | false =>
    have : r.set i (some (false, d)) = r := by
      apply List.ext_getElem?
      intro j
      by_cases hj : i = j
      · subst hj
        rw [List.getElem?_set_self (by exact (List.getElem?_eq_some_iff.mp h).1), h]
      · rw [List.getElem?_set_ne hj]
    rw [this] at hr
    subst hr
    exact vM_s h q
theorem wipe_nil : wipeR r [] = r := rfl
theorem wipe_cons {v : Nat} {vs : List Nat} {r1 r2 : List (Option (Bool × D))} (h1 : wipeR r vs = r1) (h2 : r1.set v none = r2) : wipeR r (v :: vs) = r2 := by rw [← h2, ← h1]; rfl
/-- a comprehension that leaves all slots as they were -/
theorem lc_eq {α : Type} {tgt : D → Cfg → Option Cfg} {vs : List Nat} {r1 : List (Option (Bool × D))} (e : α → D) (t : α → Bool) (v : α → D) {xs : List α} (hl : xs.length ≤ 1000000) (hw : wipeR r vs = r1)
    (hs : ∀ x ∈ xs, wpC (tgt (e x) ⟨r1, W⟩) fun c1 => wpE (ft c1) (fun _ d c2 => d = .bl (t x) ∧ (t x = false → Cfg.mrg vs ⟨r, W⟩ c2 = ⟨r, W⟩) ∧ (t x = true → wpE (fe c2) (fun k d' c3 => k ≠ .bo ∧ d' = v x ∧ Cfg.mrg vs ⟨r, W⟩ c3 = ⟨r, W⟩) fun _ _ => False)) fun _ _ => False)
    (hq : Q .fr (.lst ((xs.filter t).map v)) ⟨r, W⟩) : lcM tgt vs ft fe Q (xs.map e) ⟨r, W⟩ := by
  subst hw
  refine lc_use e t v (fun c => c = ⟨r, W⟩) hl rfl (fun x hx c hc => ?_) (fun c2 hc => by rw [hc]; exact hq)
  subst hc
  exact hs x hx
theorem lc_alleq {α : Type} {tgt : D → Cfg → Option Cfg} {vs : List Nat} {r1 : List (Option (Bool × D))} (e : α → D) (v : α → D) {xs : List α} (hl : xs.length ≤ 1000000) (hw : wipeR r vs = r1)
    (hs : ∀ x ∈ xs, wpC (tgt (e x) ⟨r1, W⟩) fun c1 => wpE (fe c1) (fun k d' c3 => k ≠ .bo ∧ d' = v x ∧ Cfg.mrg vs ⟨r, W⟩ c3 = ⟨r, W⟩) fun _ _ => False)
    (hq : Q .fr (.lst (xs.map v)) ⟨r, W⟩) : lcM tgt vs (evC (.bl true)) fe Q (xs.map e) ⟨r, W⟩ := by
  subst hw
  refine lc_all e v (fun c => c = ⟨r, W⟩) hl rfl (fun x hx c hc => ?_) (fun c2 hc => by rw [hc]; exact hq)
  subst hc
  exact hs x hx
theorem for_rng0 {tgt : D → Cfg → Option Cfg} (n : Nat) (I : Nat → Cfg → Prop) (h0 : I 0 c)
    (hs : ∀ k c, k < n → I k c → wpC (tgt (.int (k : Int)) c) fun c1 => wpS (body c1) ⟨I (k + 1), R, N, I (k + 1), X⟩)
    (hq : ∀ c, I n c → N c) : wpS (goFor tgt body (rngD 0 n) c) ⟨N, R, BB, CC, X⟩ :=
  for_rng n I h0 (fun k c hk hI => by rw [Int.zero_add]; exact hs k c hk hI) hq
theorem for_rng1 {tgt : D → Cfg → Option Cfg} (n : Nat) (I : Nat → Cfg → Prop) (h0 : I 0 c)
    (hs : ∀ k c, k < n → I k c → wpC (tgt (.int ((k + 1 : Nat) : Int)) c) fun c1 => wpS (body c1) ⟨I (k + 1), R, N, I (k + 1), X⟩)
    (hq : ∀ c, I n c → N c) : wpS (goFor tgt body (rngD 1 n) c) ⟨N, R, BB, CC, X⟩ :=
  for_rng n I h0 (fun k c hk hI => by rw [show (1 : Int) + (k : Int) = ((k + 1 : Nat) : Int) by omega]; exact hs k c hk hI) hq
theorem mrg_i {vs : List Nat} {r0 r1 r2 : List (Option (Bool × D))} {W0 : Wd} (h : mrgFrom vs 0 r0 r1 = r2) : Cfg.mrg vs ⟨r0, W0⟩ ⟨r1, W⟩ = ⟨r2, W⟩ := by rw [← h]; rfl
theorem mrg_nil {vs : List Nat} {k : Nat} : mrgFrom vs k [] [] = [] := rfl
theorem mrg_in {vs : List Nat} {k : Nat} {a a' b : Option (Bool × D)} {r0 r1 r2 : List (Option (Bool × D))} (h : vs.contains k = true) (ha : shOf a = a') (hr : mrgFrom vs (k + 1) r0 r1 = r2) : mrgFrom vs k (a :: r0) (b :: r1) = a' :: r2 := by
  unfold mrgFrom
  rw [if_pos h, ha, hr]
theorem mrg_out {vs : List Nat} {k : Nat} {a b : Option (Bool × D)} {r0 r1 r2 : List (Option (Bool × D))} (h : vs.contains k = false) (hr : mrgFrom vs (k + 1) r0 r1 = r2) : mrgFrom vs k (a :: r0) (b :: r1) = b :: r2 := by
  unfold mrgFrom
  rw [if_neg (by rw [h]; intro z; cases z), hr]
end
end DL
namespace DL
open PySem PySem.Spec PyProof.Rows L2
/-! ### operations on data, by rules -/
abbrev nD (n : Nat) : D := .int (n : Int)
abbrev QO := Kd → D → Prop
section
variable {Q : QO} {i j : Int} {a b : List D} {d d1 d2 : D} {α : Type}
theorem wO_some {k : Kd} {o : Option (Kd × D)} (h : o = some (k, d)) (q : Q k d) : wpO o Q := ⟨_, _, h, q⟩
theorem wO_ixl {k : Kd} (h : gIx d1 d2 = some (k, d)) (q : Q k d) : wpO (gIx d1 d2) Q := ⟨_, _, h, q⟩
theorem wO_add (hi : intD d1 = some i) (hj : intD d2 = some j) (q : Q .st (.int (i + j))) : wpO (gAdd d1 d2) Q := by
  rw [intD_eq hi, intD_eq hj]
  exact ⟨_, _, rfl, q⟩
theorem wO_catT (ha : tupD d1 = some a) (hb : tupD d2 = some b) (h : a.length + b.length ≤ 1000000) (q : Q .st (.tup (a ++ b))) : wpO (gAdd d1 d2) Q := by
  rw [tupD_eq ha, tupD_eq hb]
  exact ⟨_, _, by rw [gAdd_tup, if_pos (show _ ≤ big from h)], q⟩
theorem wO_catL (ha : lstD d1 = some a) (hb : lstD d2 = some b) (h : a.length + b.length ≤ 1000000) (q : Q .fr (.lst (a ++ b))) : wpO (gAdd d1 d2) Q := by
  rw [lstD_eq ha, lstD_eq hb]
  exact ⟨_, _, by rw [gAdd_lst, if_pos (show _ ≤ big from h)], q⟩
theorem wO_sub (hi : intD d1 = some i) (hj : intD d2 = some j) (q : Q .st (.int (i - j))) : wpO (gSubI d1 d2) Q := by
  rw [intD_eq hi, intD_eq hj]
  exact ⟨_, _, rfl, q⟩
theorem wO_mul (hi : intD d1 = some i) (hj : intD d2 = some j) (h : mulOk i j = true) (q : Q .st (.int (i * j))) : wpO (gMul d1 d2) Q := by
  rw [intD_eq hi, intD_eq hj]
  exact ⟨_, _, by rw [gMul_int, if_pos h], q⟩
theorem wO_repL (ha : lstD d1 = some a) (hi : intD d2 = some i) (h : -(2 ^ 63) ≤ i ∧ i < 2 ^ 63 ∧ a.length * i.toNat ≤ 1000000) (q : Q .fr (.lst (List.replicate i.toNat a).flatten)) : wpO (gMul d1 d2) Q := by
  rw [lstD_eq ha, intD_eq hi]
  exact ⟨_, _, by rw [gMul_lst, if_pos (show _ ∧ _ ∧ _ ≤ big from h)], q⟩
theorem wO_fdiv (hi : intD d1 = some i) (hj : intD d2 = some j) (h : fdivOk j = true) (q : Q .st (.int (i / j))) : wpO (gFdiv d1 d2) Q := by
  rw [intD_eq hi, intD_eq hj]
  exact ⟨_, _, by rw [gFdiv_int, if_pos h], q⟩
theorem wO_mod (hi : intD d1 = some i) (hj : intD d2 = some j) (h : 0 < j) (q : Q .st (.int (i % j))) : wpO (gMod d1 d2) Q := by
  rw [intD_eq hi, intD_eq hj]
  exact ⟨_, _, by rw [gMod_int, if_pos h], q⟩
theorem wO_pow (hi : intD d1 = some i) (hj : intD d2 = some j) (h : 0 ≤ j ∧ j ≤ 1000000 ∧ i.natAbs < 2 ^ 64) (q : Q .st (.int (i ^ j.toNat))) : wpO (gPow d1 d2) Q := by
  rw [intD_eq hi, intD_eq hj]
  exact ⟨_, _, by rw [gPow_int, if_pos h], q⟩
theorem wO_lt (hi : intD d1 = some i) (hj : intD d2 = some j) (q : Q .st (.bl (decide (i < j)))) : wpO (gLt d1 d2) Q := by
  rw [intD_eq hi, intD_eq hj]
  exact ⟨_, _, rfl, q⟩
theorem wO_le (hi : intD d1 = some i) (hj : intD d2 = some j) (q : Q .st (.bl (decide (i ≤ j)))) : wpO (gLe d1 d2) Q := by
  rw [intD_eq hi, intD_eq hj]
  exact ⟨_, _, rfl, q⟩
theorem wO_gt (hi : intD d1 = some i) (hj : intD d2 = some j) (q : Q .st (.bl (decide (j < i)))) : wpO (gGt d1 d2) Q := by
  rw [intD_eq hi, intD_eq hj]
  exact ⟨_, _, rfl, q⟩
theorem wO_ge (hi : intD d1 = some i) (hj : intD d2 = some j) (q : Q .st (.bl (decide (j ≤ i)))) : wpO (gGe d1 d2) Q := by
  rw [intD_eq hi, intD_eq hj]
  exact ⟨_, _, rfl, q⟩
theorem eqD_ints {a b : Int} : eqD (.int a) (.int b) = some (decide (a = b)) := by
  unfold eqD
  rw [py_int, py_int]
  have : SeqAt.shaped (.int a) = true := rfl
  have h2 : SeqAt.shaped (.int b) = true := rfl
  simp only [this, h2, Bool.and_self, if_true]
  by_cases h : a = b
  · subst h; simp [PyData.eqv]
  · simp [PyData.eqv, h]
theorem eqD_bls {a b : Bool} : eqD (.bl a) (.bl b) = some (decide (a = b)) := by cases a <;> cases b <;> decide +kernel
theorem wO_eqI (hi : intD d1 = some i) (hj : intD d2 = some j) (q : Q .st (.bl (decide (i = j)))) : wpO (gEq d1 d2) Q := by
  rw [intD_eq hi, intD_eq hj]
  exact ⟨_, _, by unfold gEq; rw [eqD_ints]; rfl, q⟩
theorem wO_neI (hi : intD d1 = some i) (hj : intD d2 = some j) (q : Q .st (.bl (!decide (i = j)))) : wpO (gNe d1 d2) Q := by
  rw [intD_eq hi, intD_eq hj]
  exact ⟨_, _, by unfold gNe; rw [eqD_ints]; rfl, q⟩
theorem wO_eqB {i j : Bool} (hi : blD d1 = some i) (hj : blD d2 = some j) (q : Q .st (.bl (decide (i = j)))) : wpO (gEq d1 d2) Q := by
  rw [blD_eq hi, blD_eq hj]
  exact ⟨_, _, by unfold gEq; rw [eqD_bls]; rfl, q⟩
theorem wO_neB {i j : Bool} (hi : blD d1 = some i) (hj : blD d2 = some j) (q : Q .st (.bl (!decide (i = j)))) : wpO (gNe d1 d2) Q := by
  rw [blD_eq hi, blD_eq hj]
  exact ⟨_, _, by unfold gNe; rw [eqD_bls]; rfl, q⟩
theorem wO_isN (q : Q .st (.bl (isNon d))) : wpO (gIsN d .non) Q := ⟨_, _, rfl, q⟩
theorem wO_notN (q : Q .st (.bl (!isNon d))) : wpO (gNotN d .non) Q := ⟨_, _, rfl, q⟩
theorem wO_isB {i j : Bool} (hi : blD d1 = some i) (hj : blD d2 = some j) (q : Q .st (.bl (decide (i = j)))) : wpO (gIsB d1 d2) Q := by
  rw [blD_eq hi, blD_eq hj]
  exact ⟨_, _, rfl, q⟩
theorem atI_natD {α : Type} {xs : List α} {i : Nat} (h : i < xs.length) : L2.atI xs (i : Int) = some xs[i] := by
  unfold L2.atI L2.ixN
  rw [if_pos (by omega), if_pos (by omega)]
  show xs[(i : Int).toNat]? = _
  rw [Int.toNat_natCast, List.getElem?_eq_getElem h]
theorem ixN_natD {n i : Nat} (h : i < n) : L2.ixN n (i : Int) = some i := by
  unfold L2.ixN
  rw [if_pos (by omega), if_pos (by omega), Int.toNat_natCast]
theorem ixN_intD {n : Nat} {i : Int} (h : 0 ≤ i ∧ i < n) : L2.ixN n i = some i.toNat := by
  unfold L2.ixN
  rw [if_pos h.1, if_pos h.2]
theorem atI_lastD {α : Type} {xs : List α} (h : xs ≠ []) : L2.atI xs (-1) = some (xs.getLast h) := by
  unfold L2.atI L2.ixN
  have hl : 0 < xs.length := List.length_pos_iff.mpr h
  rw [if_neg (by decide), if_pos (by omega)]
  show xs[(-1 + (xs.length : Int)).toNat]? = _
  rw [show (-1 + (xs.length : Int)).toNat = xs.length - 1 by omega, List.getElem?_eq_getElem (by omega), List.getLast_eq_getElem]
theorem ix_lst_nat {e : α → D} {xs : List α} {n : Nat} (dflt : α) (h : n < xs.length) : gIx (.lst (xs.map e)) (.int (n : Int)) = some (.st, e (xs.getD n dflt)) := by
  show (L2.atI (xs.map e) (n : Int)).map _ = _
  rw [atI_natD (by rw [List.length_map]; exact h)]
  simp [List.getD_eq_getElem?_getD, h]
theorem ix_tup_nat {e : α → D} {xs : List α} {n : Nat} (dflt : α) (h : n < xs.length) : gIx (.tup (xs.map e)) (.int (n : Int)) = some (.st, e (xs.getD n dflt)) := by
  show (L2.atI (xs.map e) (n : Int)).map _ = _
  rw [atI_natD (by rw [List.length_map]; exact h)]
  simp [List.getD_eq_getElem?_getD, h]
theorem wO_ix [Inhabited α] {e : α → D} {xs : List α} {n : Nat} (hd : seqD d1 = some (xs.map e)) (hn : intD d2 = some (n : Int)) (h : n < xs.length) (q : Q .st (e (xs.getD n default))) : wpO (gIx d1 d2) Q := by
  rw [intD_eq hn]
  rcases seqD_eq hd with rfl | rfl
  · exact ⟨_, _, ix_lst_nat _ h, q⟩
  · exact ⟨_, _, ix_tup_nat _ h, q⟩
theorem wO_ixi [Inhabited α] {e : α → D} {xs : List α} {i : Int} (hd : seqD d1 = some (xs.map e)) (hn : intD d2 = some i) (h : 0 ≤ i ∧ i < xs.length) (q : Q .st (e (xs.getD i.toNat default))) : wpO (gIx d1 d2) Q := by
  obtain ⟨n, rfl⟩ := Int.eq_ofNat_of_zero_le h.1
  exact wO_ix hd hn (by omega) q
theorem wO_ix_last {e : α → D} {xs : List α} (hd : seqD d1 = some (xs.map e)) (hn : intD d2 = some (-1)) (h : xs ≠ []) (q : Q .st (e (xs.getLast h))) : wpO (gIx d1 d2) Q := by
  rw [intD_eq hn]
  rcases seqD_eq hd with rfl | rfl
  · refine ⟨_, _, ?_, q⟩
    show (L2.atI (xs.map e) (-1)).map _ = _
    rw [atI_lastD (by simpa using h), List.getLast_map]
    rfl
  · refine ⟨_, _, ?_, q⟩
    show (L2.atI (xs.map e) (-1)).map _ = _
    rw [atI_lastD (by simpa using h), List.getLast_map]
    rfl
theorem wO_lenm {e : α → D} {xs : List α} (hd : seqD d1 = some (xs.map e)) (q : Q .st (.int (xs.length : Nat))) : wpO (gLen d1) Q := by
  rcases seqD_eq hd with rfl | rfl
  · exact ⟨_, _, rfl, by rw [List.length_map]; exact q⟩
  · exact ⟨_, _, rfl, by rw [List.length_map]; exact q⟩
theorem wO_len (hd : seqD d1 = some a) (q : Q .st (.int (a.length : Nat))) : wpO (gLen d1) Q := by
  rcases seqD_eq hd with rfl | rfl
  · exact ⟨_, _, rfl, q⟩
  · exact ⟨_, _, rfl, q⟩
theorem wO_list (hd : seqD d1 = some a) (q : Q .fr (.lst a)) : wpO (gList d1) Q := by
  rcases seqD_eq hd with rfl | rfl
  · exact ⟨_, _, rfl, q⟩
  · exact ⟨_, _, rfl, q⟩
theorem wO_tuple (hd : seqD d1 = some a) (q : Q .st (.tup a)) : wpO (gTuple d1) Q := by
  rcases seqD_eq hd with rfl | rfl
  · exact ⟨_, _, rfl, q⟩
  · exact ⟨_, _, rfl, q⟩
theorem wO_int (hi : intD d1 = some i) (q : Q .st (.int i)) : wpO (gInt d1) Q := by
  rw [intD_eq hi]
  exact ⟨_, _, rfl, q⟩
theorem wO_abs (hi : intD d1 = some i) (q : Q .st (.int (if i < 0 then -i else i))) : wpO (gAbs d1) Q := by
  rw [intD_eq hi]
  exact ⟨_, _, rfl, q⟩
theorem wO_max2 (hi : intD d1 = some i) (hj : intD d2 = some j) (q : Q .st (.int (if j > i then j else i))) : wpO (gMax2 d1 d2) Q := by
  rw [intD_eq hi, intD_eq hj]
  exact ⟨_, _, rfl, q⟩
theorem wO_min2 (hi : intD d1 = some i) (hj : intD d2 = some j) (q : Q .st (.int (if j < i then j else i))) : wpO (gMin2 d1 d2) Q := by
  rw [intD_eq hi, intD_eq hj]
  exact ⟨_, _, rfl, q⟩
theorem wO_isi {ts : List Ty5} {t : Bool} (h : isTs ts d = some t) (q : Q .st (.bl t)) : wpO (gIsi ts d) Q := ⟨_, _, by unfold gIsi; rw [h]; rfl, q⟩
theorem wO_rep_non (q : Q .st (.str "None")) : wpO (gRep0 .non) Q := ⟨_, _, rfl, q⟩
theorem wO_rep_bl {t : Bool} (hd : blD d1 = some t) (q : Q .st (.str (if t then "True" else "False"))) : wpO (gRep0 d1) Q := by
  rw [blD_eq hd]
  exact ⟨_, _, rfl, q⟩
theorem asB_maps (bs : List Bool) : asB (bs.map D.bl) = some bs := by
  induction bs with
  | nil => rfl
  | cons x bs ih => rw [List.map_cons]; unfold asB; rw [ih]; rfl
theorem asB_mapf {α : Type} (f : α → Bool) (xs : List α) : asB (xs.map fun x => D.bl (f x)) = some (xs.map f) := by
  have := asB_maps (xs.map f)
  rw [List.map_map] at this
  exact this
theorem wO_all {f : α → Bool} {xs : List α} (q : Q .st (.bl (xs.all f))) : wpO (gAll (.lst (xs.map fun x => D.bl (f x)))) Q := by
  refine ⟨_, _, ?_, q⟩
  show (asB (xs.map fun x => D.bl (f x))).bind _ = _
  rw [asB_mapf]
  simp [List.all_map]
theorem wO_any {f : α → Bool} {xs : List α} (q : Q .st (.bl (xs.any f))) : wpO (gAny (.lst (xs.map fun x => D.bl (f x)))) Q := by
  refine ⟨_, _, ?_, q⟩
  show (asB (xs.map fun x => D.bl (f x))).bind _ = _
  rw [asB_mapf]
  simp [List.any_map]
theorem wO_slL {l h : Option Int} (hd : lstD d1 = some a) (q : Q .fr (.lst (cutD a l h))) : wpO (gSl d1 l h) Q := by
  rw [lstD_eq hd]
  exact ⟨_, _, rfl, q⟩
theorem wO_slT {l h : Option Int} (hd : tupD d1 = some a) (q : Q .st (.tup (cutD a l h))) : wpO (gSl d1 l h) Q := by
  rw [tupD_eq hd]
  exact ⟨_, _, rfl, q⟩
theorem wO_revL (hd : lstD d1 = some a) (q : Q .fr (.lst a.reverse)) : wpO (gRev d1) Q := by
  rw [lstD_eq hd]
  exact ⟨_, _, rfl, q⟩
theorem wO_revT (hd : tupD d1 = some a) (q : Q .st (.tup a.reverse)) : wpO (gRev d1) Q := by
  rw [tupD_eq hd]
  exact ⟨_, _, rfl, q⟩
/-! bools -/
variable {T F : Prop}
theorem onBl_t (h : T) : onBl (.bl true) T F := ⟨true, rfl, fun _ => h, fun z => by cases z⟩
theorem onBl_f (h : F) : onBl (.bl false) T F := ⟨false, rfl, (fun z => by cases z), fun _ => h⟩
theorem onBl_nt (h : F) : onBl (.bl (!true)) T F := onBl_f h
theorem onBl_nf (h : T) : onBl (.bl (!false)) T F := onBl_t h
theorem onBl_dt {p : Prop} [Decidable p] (h : p) (q : T) : onBl (.bl (decide p)) T F := ⟨_, rfl, fun _ => q, fun z => absurd h (of_decide_eq_false z)⟩
theorem onBl_df {p : Prop} [Decidable p] (h : ¬ p) (q : F) : onBl (.bl (decide p)) T F := ⟨_, rfl, fun z => absurd (of_decide_eq_true z) h, fun _ => q⟩
theorem onBl_ndt {p : Prop} [Decidable p] (h : ¬ p) (q : T) : onBl (.bl (!decide p)) T F := by rw [decide_eq_false h]; exact onBl_t q
theorem onBl_ndf {p : Prop} [Decidable p] (h : p) (q : F) : onBl (.bl (!decide p)) T F := by rw [decide_eq_true h]; exact onBl_f q
theorem onBl_d {p : Prop} [Decidable p] (h : p → T) (q : ¬ p → F) : onBl (.bl (decide p)) T F := ⟨_, rfl, fun z => h (of_decide_eq_true z), fun z => q (of_decide_eq_false z)⟩
theorem onBl_nd {p : Prop} [Decidable p] (h : ¬ p → T) (q : p → F) : onBl (.bl (!decide p)) T F := ⟨_, rfl, fun z => h (by simpa using z), fun z => q (by simpa using z)⟩
theorem onBl_b {t : Bool} (h : t = true → T) (q : t = false → F) : onBl (.bl t) T F := ⟨_, rfl, h, q⟩
theorem onBl_n {t : Bool} (h : t = false → T) (q : t = true → F) : onBl (.bl (!t)) T F := ⟨_, rfl, fun z => h (by simpa using z), fun z => q (by simpa using z)⟩
end
/-! defs -/
/-- the slots at the start -/
def startR : Nat → List D → List (Option (Bool × D))
  | 0, _ => []
  | m + 1, d :: ds => some (false, d) :: startR m ds
  | m + 1, [] => none :: startR m []
theorem st_0 : startR 0 [] = [] := rfl
theorem st_d {m : Nat} {d : D} {ds : List D} {r : List (Option (Bool × D))} (h : startR m ds = r) : startR (m + 1) (d :: ds) = some (false, d) :: r := by rw [← h]; rfl
theorem st_n {m : Nat} {r : List (Option (Bool × D))} (h : startR m [] = r) : startR (m + 1) [] = none :: r := by rw [← h]; rfl
theorem startR_eq : ∀ (m : Nat) (ds : List D), ds.length ≤ m → ds.map (fun d => some (false, d)) ++ List.replicate (m - ds.length) none = startR m ds
  | 0, [], _ => rfl
  | 0, d :: ds, h => absurd h (by simp)
  | m + 1, [], _ => by
    have := startR_eq m [] (Nat.zero_le _)
    simp only [List.map_nil, List.nil_append, List.length_nil, Nat.sub_zero] at this ⊢
    rw [List.replicate_succ, this]
    rfl
  | m + 1, d :: ds, h => by
    have := startR_eq m ds (by simpa using h)
    rw [List.map_cons, List.cons_append, List.length_cons, Nat.add_sub_add_right, this]
    rfl
theorem set_0 {α : Type} {a x : α} {r : List α} : (a :: r).set 0 x = x :: r := rfl
theorem set_s {α : Type} {a x : α} {r r' : List α} {i : Nat} (h : r.set i x = r') : (a :: r).set (i + 1) x = a :: r' := by rw [← h]; rfl
theorem wF_run {m : Nat} {f : SF} {ds : List D} {W : Wd} {r : List (Option (Bool × D))} {Q : QR} {X : QX} (hl : Nat.ble ds.length m = true) (hc : startR m ds = r) (h : wpS (f ⟨r, W⟩) ⟨fun c => Q false .non c.W, Q, fun _ => False, fun _ => False, X⟩) : wpF (runD m f ds W) Q X := by
  subst hc
  unfold runD
  show wpF (match f (startC m ds W) with
    | .nx c => .ret false .non c.W
    | .ret fr d W => .ret fr d W
    | .exc x W => .exc x W
    | _ => .bad) Q X
  have h' : wpS (f (startC m ds W)) ⟨fun c => Q false .non c.W, Q, fun _ => False, fun _ => False, X⟩ := by
    unfold startC
    rw [startR_eq m ds (Nat.le_of_ble_eq_true hl)]
    exact h
  cases e : f (startC m ds W) with
  | nx c1 => rw [e] at h'; exact h'
  | ret fr d W => rw [e] at h'; exact h'
  | brk c1 => rw [e] at h'; exact h'.h.elim
  | cnt c1 => rw [e] at h'; exact h'.h.elim
  | exc x W => rw [e] at h'; exact h'
  | bad => rw [e] at h'; exact h'.h.elim
theorem lt_of_ble {i n : Nat} (h : Nat.ble (i + 1) n = true) : i < n := Nat.le_of_ble_eq_true h
theorem le_of_ble {i n : Nat} (h : Nat.ble i n = true) : i ≤ n := Nat.le_of_ble_eq_true h
/-- one frame's tail: what is returned -/
theorem QS_eta (Q : QS) : (⟨Q.n, Q.r, Q.b, Q.c, Q.x⟩ : QS) = Q := rfl
end DL
namespace DL
open PySem PySem.Spec PyProof.Rows L2
/-! ### data of little depth; kinds that are told apart by equality -/
def Gd (k : Nat) (d : D) : Prop := ∃ q, D.py d = some q ∧ PyData.canLay0 q = true ∧ PyData.depth q ≤ k
theorem gdL {k : Nat} : ∀ ds : List D, (∀ d ∈ ds, Gd k d) → ∃ qs, pyL ds = some qs ∧ PyData.canLayAll0 qs = true ∧ PyData.depthAll qs ≤ k ∧ qs.length = ds.length
  | [], _ => ⟨[], pyL_nil, by simp only [PyData.canLayAll0], by simp only [PyData.depthAll]; omega, rfl⟩
  | d :: ds, h => by
    obtain ⟨q, e1, e2, e3⟩ := h d List.mem_cons_self
    obtain ⟨qs, f1, f2, f3, f4⟩ := gdL ds (fun x hx => h x (List.mem_cons_of_mem _ hx))
    refine ⟨q :: qs, ?_, ?_, ?_, by simp [f4]⟩
    · rw [pyL_cons, e1]
      dsimp only
      rw [f1]
      rfl
    · simp only [PyData.canLayAll0, e2, f2, Bool.and_self]
    · simp only [PyData.depthAll]
      omega
theorem gd_int (k : Nat) (i : Int) : Gd k (.int i) := ⟨_, py_int, by simp only [PyData.canLay0], by simp only [PyData.depth]; omega⟩
theorem gd_bl (k : Nat) (b : Bool) : Gd k (.bl b) := ⟨_, py_bl, by simp only [PyData.canLay0], by simp only [PyData.depth]; omega⟩
theorem gd_non (k : Nat) : Gd k .non := ⟨_, py_non, by simp only [PyData.canLay0], by simp only [PyData.depth]; omega⟩
theorem gd_tup {k : Nat} {ds : List D} (h : ∀ d ∈ ds, Gd k d) : Gd (k + 1) (.tup ds) := by
  obtain ⟨qs, f1, f2, f3, _⟩ := gdL ds h
  exact ⟨.tuple qs, by rw [py_tup, f1]; rfl, by simp only [PyData.canLay0, f2], by simp only [PyData.depth]; omega⟩
theorem gd_lst {k : Nat} {ds : List D} (h : ∀ d ∈ ds, Gd k d) : Gd (k + 1) (.lst ds) := by
  obtain ⟨qs, f1, f2, f3, _⟩ := gdL ds h
  exact ⟨.list qs, by rw [py_lst, f1]; rfl, by simp only [PyData.canLay0, f2], by simp only [PyData.depth]; omega⟩
theorem gd_mono {k l : Nat} {d : D} (h : Gd k d) (hl : k ≤ l) : Gd l d := by
  obtain ⟨q, h1, h2, h3⟩ := h
  exact ⟨q, h1, h2, Nat.le_trans h3 hl⟩
theorem gd_shaped {k : Nat} {d : D} (h : Gd k d) (hk : k ≤ 64) : ∃ q, D.py d = some q ∧ SeqAt.shaped q = true := by
  obtain ⟨q, e, h1, h2⟩ := h
  refine ⟨q, e, ?_⟩
  unfold SeqAt.shaped
  rw [h1, Bool.true_and]
  exact decide_eq_true (by omega)
/-- a kind whose data are told apart -/
structure Eqv {α : Type} (e : α → D) (k : Nat) : Prop where
  gd : ∀ a, Gd k (e a)
  eq : ∀ a b p q, (e a).py = some p → (e b).py = some q → (PyData.eqv p q = true ↔ a = b)
theorem eqv_int : Eqv (fun i : Int => D.int i) 0 := ⟨gd_int 0, fun a b p q h1 h2 => by
  rw [py_int] at h1 h2
  cases h1; cases h2
  simp [PyData.eqv]⟩
theorem eqv_nat : Eqv (fun i : Nat => D.int (i : Int)) 0 := ⟨fun a => gd_int 0 _, fun a b p q h1 h2 => by
  rw [py_int] at h1 h2
  cases h1; cases h2
  simp [PyData.eqv]
  omega⟩
theorem eqv_bl : Eqv (fun i : Bool => D.bl i) 0 := ⟨gd_bl 0, fun a b p q h1 h2 => by
  rw [py_bl] at h1 h2
  cases h1; cases h2
  simp [PyData.eqv]⟩
theorem eqvL {α : Type} {e : α → D} {k : Nat} (h : Eqv e k) : ∀ (as bs : List α) (ps qs : List PyData), pyL (as.map e) = some ps → pyL (bs.map e) = some qs → (PyData.eqvAll ps qs = true ↔ as = bs)
  | [], [], ps, qs, h1, h2 => by
    rw [List.map_nil, pyL_nil] at h1 h2
    cases h1; cases h2
    simp [PyData.eqvAll]
  | [], b :: bs, ps, qs, h1, h2 => by
    rw [List.map_nil, pyL_nil] at h1
    rw [List.map_cons, pyL_cons] at h2
    cases h1
    revert h2
    cases (e b).py with
    | none => intro h; cases h
    | some q =>
      cases pyL (bs.map e) with
      | none => intro h; cases h
      | some l =>
        intro h
        cases h
        simp [PyData.eqvAll]
  | a :: as, [], ps, qs, h1, h2 => by
    rw [List.map_nil, pyL_nil] at h2
    rw [List.map_cons, pyL_cons] at h1
    cases h2
    revert h1
    cases (e a).py with
    | none => intro h; cases h
    | some q =>
      cases pyL (as.map e) with
      | none => intro h; cases h
      | some l =>
        intro h
        cases h
        simp [PyData.eqvAll]
  | a :: as, b :: bs, ps, qs, h1, h2 => by
    rw [List.map_cons, pyL_cons] at h1 h2
    have ha := h.eq a b
    revert h1 h2 ha
    cases (e a).py with
    | none => intro h; cases h
    | some p =>
      cases hps : pyL (as.map e) with
      | none => intro h; cases h
      | some l =>
        cases (e b).py with
        | none => intro _ h; cases h
        | some q =>
          cases hqs : pyL (bs.map e) with
          | none => intro _ h; cases h
          | some m =>
            intro h1 h2 ha
            cases h1
            cases h2
            have := eqvL h as bs l m hps hqs
            simp only [PyData.eqvAll, Bool.and_eq_true, ha p q rfl rfl, this, List.cons.injEq]
theorem eqv_lst {α : Type} {e : α → D} {k : Nat} (h : Eqv e k) : Eqv (fun as : List α => D.lst (as.map e)) (k + 1) := ⟨fun as => gd_lst fun d hd => by
  obtain ⟨a, _, rfl⟩ := List.mem_map.mp hd
  exact h.gd a, fun as bs p q h1 h2 => by
  rw [py_lst] at h1 h2
  have := eqvL h as bs
  revert h1 h2 this
  cases pyL (as.map e) with
  | none => intro h; cases h
  | some l =>
    cases pyL (bs.map e) with
    | none => intro _ h; cases h
    | some m =>
      intro h1 h2 h3
      cases h1
      cases h2
      simp only [PyData.eqv, h3 l m rfl rfl]⟩
theorem eqv_tup {α : Type} {e : α → D} {k : Nat} (h : Eqv e k) : Eqv (fun as : List α => D.tup (as.map e)) (k + 1) := ⟨fun as => gd_tup fun d hd => by
  obtain ⟨a, _, rfl⟩ := List.mem_map.mp hd
  exact h.gd a, fun as bs p q h1 h2 => by
  rw [py_tup] at h1 h2
  have := eqvL h as bs
  revert h1 h2 this
  cases pyL (as.map e) with
  | none => intro h; cases h
  | some l =>
    cases pyL (bs.map e) with
    | none => intro _ h; cases h
    | some m =>
      intro h1 h2 h3
      cases h1
      cases h2
      simp only [PyData.eqv, h3 l m rfl rfl]⟩
theorem eqv_pair {α β : Type} {e : α → D} {f : β → D} {k : Nat} (h : Eqv e k) (g : Eqv f k) : Eqv (fun p : α × β => D.tup [e p.1, f p.2]) (k + 1) := ⟨fun p => gd_tup fun d hd => by
  rcases List.mem_cons.mp hd with rfl | hd
  · exact h.gd _
  rcases List.mem_cons.mp hd with rfl | hd
  · exact g.gd _
  exact absurd hd List.not_mem_nil, fun a b p q h1 h2 => by
  rw [py_tup, pyL_cons, pyL_cons, pyL_nil] at h1 h2
  have ha := h.eq a.1 b.1
  have hb := g.eq a.2 b.2
  revert h1 h2 ha hb
  cases (e a.1).py with
  | none => intro h; cases h
  | some p1 =>
    cases (f a.2).py with
    | none => intro h; cases h
    | some p2 =>
      cases (e b.1).py with
      | none => intro _ h; cases h
      | some q1 =>
        cases (f b.2).py with
        | none => intro _ h; cases h
        | some q2 =>
          intro h1 h2 ha hb
          cases h1
          cases h2
          simp only [PyData.eqv, PyData.eqvAll, Bool.and_eq_true, ha p1 q1 rfl rfl, hb p2 q2 rfl rfl, and_true]
          rw [Prod.ext_iff]⟩
theorem eqv_tri {α β γ : Type} {e : α → D} {f : β → D} {g : γ → D} {k : Nat} (h : Eqv e k) (h' : Eqv f k) (h'' : Eqv g k) : Eqv (fun p : α × β × γ => D.tup [e p.1, f p.2.1, g p.2.2]) (k + 1) := ⟨fun p => gd_tup fun d hd => by
  rcases List.mem_cons.mp hd with rfl | hd
  · exact h.gd _
  rcases List.mem_cons.mp hd with rfl | hd
  · exact h'.gd _
  rcases List.mem_cons.mp hd with rfl | hd
  · exact h''.gd _
  exact absurd hd List.not_mem_nil, fun a b p q h1 h2 => by
  rw [py_tup, pyL_cons, pyL_cons, pyL_cons, pyL_nil] at h1 h2
  have ha := h.eq a.1 b.1
  have hb := h'.eq a.2.1 b.2.1
  have hc := h''.eq a.2.2 b.2.2
  revert h1 h2 ha hb hc
  cases (e a.1).py with
  | none => intro h; cases h
  | some p1 =>
    cases (f a.2.1).py with
    | none => intro h; cases h
    | some p2 =>
      cases (g a.2.2).py with
      | none => intro h; cases h
      | some p3 =>
        cases (e b.1).py with
        | none => intro _ h; cases h
        | some q1 =>
          cases (f b.2.1).py with
          | none => intro _ h; cases h
          | some q2 =>
            cases (g b.2.2).py with
            | none => intro _ h; cases h
            | some q3 =>
              intro h1 h2 ha hb hc
              cases h1
              cases h2
              simp only [PyData.eqv, PyData.eqvAll, Bool.and_eq_true, ha p1 q1 rfl rfl, hb p2 q2 rfl rfl, hc p3 q3 rfl rfl, and_true]
              rw [Prod.ext_iff, Prod.ext_iff]⟩
theorem eqD_of {α : Type} [DecidableEq α] {e : α → D} {k : Nat} (h : Eqv e k) (hk : k ≤ 64) (a b : α) : eqD (e a) (e b) = some (decide (a = b)) := by
  obtain ⟨p, h1, h2⟩ := gd_shaped (h.gd a) hk
  obtain ⟨q, h3, h4⟩ := gd_shaped (h.gd b) hk
  unfold eqD
  rw [h1, h3]
  dsimp only
  rw [h2, h4]
  have := h.eq a b p q h1 h3
  by_cases hab : a = b
  · rw [decide_eq_true hab]
    simp [this.mpr hab]
  · rw [decide_eq_false hab]
    have : PyData.eqv p q = false := by
      cases hh : PyData.eqv p q with
      | false => rfl
      | true => exact absurd (this.mp hh) hab
    simp [this]
theorem gEq_of {α : Type} [DecidableEq α] {e : α → D} {k : Nat} (h : Eqv e k) (hk : k ≤ 64) (a b : α) : gEq (e a) (e b) = some (.st, .bl (decide (a = b))) := by unfold gEq; rw [eqD_of h hk]; rfl
theorem gNe_of {α : Type} [DecidableEq α] {e : α → D} {k : Nat} (h : Eqv e k) (hk : k ≤ 64) (a b : α) : gNe (e a) (e b) = some (.st, .bl (!decide (a = b))) := by unfold gNe; rw [eqD_of h hk]; rfl
/-- a list against [] -/
theorem eqD_nilS {ds : List D} {k : Nat} (h : ∀ d ∈ ds, Gd k d) (hk : k ≤ 60) : eqD (.lst ds) (.lst []) = some ds.isEmpty := by
  obtain ⟨q, e1, e2⟩ := gd_shaped (gd_lst h) (by omega)
  obtain ⟨q', e3, e4⟩ := gd_shaped (gd_lst (k := 0) (ds := []) (fun d hd => by cases hd)) (by omega)
  have h1 := e1
  have h3 := e3
  unfold eqD
  rw [h1, h3]
  dsimp only
  rw [e2, e4]
  rw [py_lst] at e1 e3
  rw [pyL_nil] at e3
  cases e3
  cases ds with
  | nil =>
    rw [pyL_nil] at e1
    cases e1
    simp [PyData.eqv, PyData.eqvAll]
  | cons d ds =>
    rw [pyL_cons] at e1
    revert e1
    cases d.py with
    | none => intro h; cases h
    | some p =>
      cases pyL ds with
      | none => intro h; cases h
      | some l =>
        intro h
        cases h
        simp [PyData.eqv, PyData.eqvAll]
theorem gEq_nilS {ds : List D} {k : Nat} (h : ∀ d ∈ ds, Gd k d) (hk : k ≤ 60) : gEq (.lst ds) (.lst []) = some (.st, .bl ds.isEmpty) := by unfold gEq; rw [eqD_nilS h hk]; rfl
theorem gNe_nilS {ds : List D} {k : Nat} (h : ∀ d ∈ ds, Gd k d) (hk : k ≤ 60) : gNe (.lst ds) (.lst []) = some (.st, .bl (!ds.isEmpty)) := by unfold gNe; rw [eqD_nilS h hk]; rfl
theorem gd_map {α : Type} {e : α → D} {k : Nat} (h : ∀ a, Gd k (e a)) (xs : List α) : ∀ d ∈ xs.map e, Gd k d := fun d hd => by
  obtain ⟨a, _, rfl⟩ := List.mem_map.mp hd
  exact h a
/-! ### small facts -/
theorem dec_nat (a b : Nat) : decide ((a : Int) = (b : Int)) = decide (a = b) := by
  rw [decide_eq_decide]
  omega
theorem rng0 (n : Nat) : rngD 0 n = (List.range n).map fun i : Nat => D.int (i : Int) := by
  unfold rngD
  refine List.map_congr_left fun i _ => ?_
  rw [Int.zero_add]
theorem mulOk_small {i j : Int} (h : -(2 ^ 64) < i ∧ i < 2 ^ 64) : mulOk i j = true := by
  unfold mulOk
  rw [decide_eq_true h.1, decide_eq_true h.2]
  rfl
theorem fdivOk_small {j : Int} (h : 0 < j ∧ j < 2 ^ 64) : fdivOk j = true := by
  unfold fdivOk
  rw [Bool.and_eq_true]
  refine ⟨decide_eq_true h.1, decide_eq_true ?_⟩
  have : j.natAbs.log2 < 64 := (Nat.log2_lt (by omega)).mpr (by omega)
  omega
/-- the deal as it stands -/
structure WOk1 (W : Wd) : Prop where
  l : W.1.length ≤ 1000
theorem trimZ_len (ns : List Int) : (trimZ ns).length ≤ ns.length := by
  unfold trimZ
  rw [List.length_reverse]
  have := (List.dropWhile_sublist (fun x : Int => decide (x = 0)) (l := ns.reverse)).length_le
  rw [List.length_reverse] at this
  exact this
theorem anyW_ok {W : Wd} (h : WOk1 W) (b : Int) : WOk1 (anyW W b).2 := by
  refine ⟨?_⟩
  have h1 := h.l
  have h2 := trimZ_len W.1
  unfold anyW
  cases hl : lastI (trimZ W.1) with
  | none => simp
  | some n =>
    have h3 : (trimZ W.1).length ≠ 0 := by
      intro z
      have : trimZ W.1 = [] := List.eq_nil_of_length_eq_zero z
      rw [this] at hl
      cases hl
    simp
    omega
theorem anyW_in {W : Wd} {b : Int} (h : 0 < b) : 0 ≤ (anyW W b).1 ∧ (anyW W b).1 < b := by
  unfold anyW
  cases lastI (trimZ W.1) with
  | none => exact ⟨Int.emod_nonneg _ (by omega), Int.emod_lt_of_pos _ h⟩
  | some n => exact ⟨Int.emod_nonneg _ (by omega), Int.emod_lt_of_pos _ h⟩
/-- a draw: some number below the bound -/
theorem any_ex {W : Wd} {n : Nat} (hW : WOk1 W) (h0 : 0 < n) (h1 : n < 2 ^ 60) : ∃ (k : Nat) (W' : Wd), k < n ∧ WOk1 W' ∧ F__law_any [.deal, .int (n : Int)] W = .ret false (.int (k : Int)) W' := by
  have hb : (0 : Int) < (n : Int) := by omega
  obtain ⟨g1, g2⟩ := anyW_in (W := W) hb
  refine ⟨(anyW W n).1.toNat, (anyW W n).2, by omega, anyW_ok hW n, ?_⟩
  have hf : fdivOk (n : Int) = true := by
    unfold fdivOk
    rw [Bool.and_eq_true]
    refine ⟨decide_eq_true hb, decide_eq_true ?_⟩
    have : ((n : Int).natAbs).log2 < 60 := by
      rw [Int.natAbs_natCast]
      exact (Nat.log2_lt (by omega)).mpr h1
    omega
  have hok : anyOk W (n : Int) = true := by
    unfold anyOk
    rw [hf, Bool.true_and]
    exact decide_eq_true hW.l
  show (if anyOk W (n : Int) then FR.ret false (.int (anyW W n).1) (anyW W n).2 else .bad) = _
  rw [if_pos hok, Int.toNat_of_nonneg g1]
end DL
namespace DL.K50
open PySem PySem.Spec PyProof.Rows L2 DL
/-- is_integer: 0 value -/
def f_is_integer : SF := (sRet (evAnd (ev1 (gIsi [.int]) (evB 0)) (evNot (ev1 (gIsi [.bool]) (evB 0)))))
def F_is_integer : FF := runD 1 f_is_integer
/-- is_number: 0 value -/
def f_is_number : SF := (sRet (evAnd (evCall 1 F_is_integer (evCons (evV 0) evNil)) (ev2 gGe (evB 0) (evC (.int 0)))))
def F_is_number : FF := runD 1 f_is_number
/-- is_sequence: 0 value -/
def f_is_sequence : SF := (sRet (ev1 (gIsi [.list, .tuple]) (evB 0)))
def F_is_sequence : FF := runD 1 f_is_sequence
/-- is_index: 0 value, 1 many -/
def f_is_index : SF := (sRet (evAnd (evCall 1 F_is_number (evCons (evV 0) evNil)) (ev2 gLt (evB 0) (evB 1))))
def F_is_index : FF := runD 2 f_is_index
/-- divisor: 0 one, 1 other -/
def f_divisor : SF := (sSeq (sWhile (fuI 1) (ev2 gGt (evB 1) (evC (.int 0))) (sParK 0 1 (evV 1) (ev2 gMod (ev1 gInt (evB 0)) (evB 1)))) (sRet (evM 0)))
def F_divisor : FF := runD 2 f_divisor
/-- fault: 0 value, 1 seen, 2 at, 3 place -/
def f_fault : SF := (sSeq (sIf (evNot (evTru (evCall 1 F_is_sequence (evCons (evV 0) evNil)))) (sRet (evC (.int 0))) sNil) (sSeq (sSet 1 (ev2 gMul (evLst (evCons (evC (.bl false)) evNil)) (ev1 gLen (evB 0)))) (sSeq (sFor (evEn (evCons (evV 0) evNil)) (tgTup 2 (tgCons (tgN 2) (tgCons (tgN 3) tgNil))) (sSeq (sIf (evOr (evNot (evTru (evCall 2 F_is_index (evCons (evV 3) (evCons (ev1 gLen (evB 0)) evNil))))) (evTru (ev2 gIx (evB 1) (evB 3)))) (sRet (evM 2)) sNil) (sPutI 1 (evB 3) (evC (.bl true))))) (sRet (evC .non)))))
def F_fault : FF := runD 4 f_fault
/-- checked_reordering: 0 value, 1 at -/
def f_checked_reordering : SF := (sSeq (sSet 1 (evCall 1 F_fault (evCons (evV 0) evNil))) (sSeq (sIf (ev2 gNotN (evB 1) (evC .non)) sBad sNil) (sRet (ev1 gTuple (evB 0)))))
def F_checked_reordering : FF := runD 2 f_checked_reordering
/-- frame: 0 reordering, 1 places, 2 moved, 3 step, 4 at, 5 place -/
def f_frame : SF := (sSeq (sSet 1 (evCall 1 F_checked_reordering (evCons (evV 0) evNil))) (sSeq (sSet 2 (evLc (evEn (evCons (evV 1) evNil)) (tgTup 2 (tgCons (tgN 4) (tgCons (tgN 5) tgNil))) [4, 5] (ev2 gNe (evB 5) (evB 4)) (evV 4))) (sSeq (sIf (ev2 gEq (ev1 gLen (evB 2)) (evC (.int 0))) (sRet (evC .non)) sNil) (sSeq (sSet 3 (evC (.int 0))) (sSeq (sFor (evIt (evV 2)) (tgN 4) (sSet 3 (evCall 2 F_divisor (evCons (ev1 gAbs (ev2 gSubI (ev2 gIx (evB 1) (evB 4)) (evB 4))) (evCons (evV 3) evNil))))) (sRet (evTup (evCons (ev2 gIx (evB 2) (evC (.int 0))) (evCons (ev2 gSubI (ev2 gSubI (ev1 gLen (evB 1)) (evC (.int 1))) (ev2 gIx (evB 2) (evNeg (evC (.int 1))))) (evCons (evV 3) evNil))))))))))
def F_frame : FF := runD 6 f_frame
/-- is_allowed: 0 triple, 1 reordering, 2 places, 3 moved, 4 first, 5 last, 6 step, 7 at, 8 place -/
def f_is_allowed : SF := (sSeq (sSet 2 (evCall 1 F_checked_reordering (evCons (evV 1) evNil))) (sSeq (sSet 3 (evLc (evEn (evCons (evV 2) evNil)) (tgTup 2 (tgCons (tgN 7) (tgCons (tgN 8) tgNil))) [7, 8] (ev2 gNe (evB 8) (evB 7)) (evV 7))) (sSeq (sIf (evOr (ev2 gIsN (evB 0) (evC .non)) (ev2 gEq (ev1 gLen (evB 3)) (evC (.int 0)))) (sRet (ev2 gEq (ev1 gLen (evB 3)) (evC (.int 0)))) sNil) (sSeq (sAsg (tgTup 3 (tgCons (tgN 4) (tgCons (tgN 5) (tgCons (tgN 6) tgNil)))) (evV 0)) (sSeq (sIf (evOr (ev2 gLt (ev2 gIx (evB 3) (evC (.int 0))) (evB 4)) (ev2 gGe (ev2 gIx (evB 3) (evNeg (evC (.int 1)))) (ev2 gSubI (ev1 gLen (evB 2)) (evB 5)))) (sRet (evC (.bl false))) sNil) (sRet (ev1 gAll (evLc (evIt (evV 3)) (tgN 7) [7] (evC (.bl true)) (ev2 gEq (ev2 gMod (ev2 gSubI (ev2 gIx (evB 2) (evB 7)) (evB 7)) (evB 6)) (evC (.int 0)))))))))))
def F_is_allowed : FF := runD 9 f_is_allowed
/-- triple_fault: 0 value, 1 at, 2 number -/
def f_triple_fault : SF := (sSeq (sIf (evOr (evNot (evTru (evCall 1 F_is_sequence (evCons (evV 0) evNil)))) (ev2 gNe (ev1 gLen (evB 0)) (evC (.int 3)))) (sRet (evC (.int 3))) sNil) (sSeq (sFor (evEn (evCons (evV 0) evNil)) (tgTup 2 (tgCons (tgN 1) (tgCons (tgN 2) tgNil))) (sIf (evOr (evNot (evTru (evCall 1 F_is_number (evCons (evV 2) evNil)))) (evAnd (ev2 gEq (evB 1) (evC (.int 2))) (ev2 gEq (evB 2) (evC (.int 0))))) (sRet (evM 1)) sNil)) (sRet (evC .non))))
def F_triple_fault : FF := runD 3 f_triple_fault
/-- checked_triple: 0 value, 1 at -/
def f_checked_triple : SF := (sSeq (sSet 1 (evCall 1 F_triple_fault (evCons (evV 0) evNil))) (sSeq (sIf (ev2 gNotN (evB 1) (evC .non)) sBad sNil) (sRet (ev1 gTuple (evB 0)))))
def F_checked_triple : FF := runD 2 f_checked_triple
/-- is_finding: 0 value -/
def f_is_finding : SF := (sSeq (sIf (evOr (evNot (evTru (evCall 1 F_is_sequence (evCons (evV 0) evNil)))) (evOr (ev2 gNe (ev1 gLen (evB 0)) (evC (.int 2))) (evNot (evTru (evCall 1 F_is_sequence (evCons (ev2 gIx (evB 0) (evC (.int 0))) evNil)))))) (sRet (evC (.bl false))) sNil) (sRet (evAnd (ev1 (gIsi [.bool]) (ev2 gIx (evB 0) (evC (.int 1)))) (ev2 gIsN (evCall 1 F_fault (evCons (ev2 gIx (evB 0) (evC (.int 0))) evNil)) (evC .non)))))
def F_is_finding : FF := runD 1 f_is_finding
/-- checked_findings: 0 value, 1 at, 2 entry -/
def f_checked_findings : SF := (sSeq (sIf (evNot (evTru (evCall 1 F_is_sequence (evCons (evV 0) evNil)))) sBad sNil) (sSeq (sFor (evEn (evCons (evV 0) evNil)) (tgTup 2 (tgCons (tgN 1) (tgCons (tgN 2) tgNil))) (sIf (evNot (evTru (evCall 1 F_is_finding (evCons (evV 2) evNil)))) sBad sNil)) (sRet (ev1 gTuple (evLc (evIt (evV 0)) (tgN 2) [2] (evC (.bl true)) (evTup (evCons (evCall 1 F_checked_reordering (evCons (ev2 gIx (evB 2) (evC (.int 0))) evNil)) (evCons (ev2 gIx (evB 2) (evC (.int 1))) evNil))))))))
def F_checked_findings : FF := runD 3 f_checked_findings
/-- agrees_with: 0 numbers, 1 findings, 2 reordering, 3 harmless -/
def f_agrees_with : SF := (sRet (ev1 gAll (evLc (evIt (evV 1)) (tgTup 2 (tgCons (tgN 2) (tgCons (tgN 3) tgNil))) [2, 3] (evC (.bl true)) (ev2 gEq (evCall 2 F_is_allowed (evCons (evV 0) (evCons (evV 2) evNil))) (evB 3)))))
def F_agrees_with : FF := runD 4 f_agrees_with
/-- agrees: 0 triple, 1 told, 2 numbers -/
def f_agrees : SF := (sSeq (sSet 2 (evIf (ev2 gIsN (evB 0) (evC .non)) (evC .non) (evCall 1 F_checked_triple (evCons (evV 0) evNil)))) (sRet (evCall 2 F_agrees_with (evCons (evV 2) (evCons (evCall 1 F_checked_findings (evCons (evV 1) evNil)) evNil)))))
def F_agrees : FF := runD 3 f_agrees
/-- widest_of: 0 findings, 1 found, 2 reordering, 3 harmless, 4 told -/
def f_widest_of : SF := (sSeq (sSet 1 (evC .non)) (sSeq (sFor (evIt (evV 0)) (tgTup 2 (tgCons (tgN 2) (tgCons (tgN 3) tgNil))) (sSeq (sSet 4 (evCall 1 F_frame (evCons (evV 2) evNil))) (sIf (evAnd (evTru (evB 3)) (ev2 gNotN (evB 4) (evC .non))) (sSeq (sIf (ev2 gIsN (evB 1) (evC .non)) (sSet 1 (evV 4)) sNil) (sSet 1 (evTup (evCons (ev2 gMin2 (ev2 gIx (evB 1) (evC (.int 0))) (ev2 gIx (evB 4) (evC (.int 0)))) (evCons (ev2 gMin2 (ev2 gIx (evB 1) (evC (.int 1))) (ev2 gIx (evB 4) (evC (.int 1)))) (evCons (evCall 2 F_divisor (evCons (ev2 gIx (evB 1) (evC (.int 2))) (evCons (ev2 gIx (evB 4) (evC (.int 2))) evNil))) evNil)))))) sNil))) (sRet (evM 1))))
def F_widest_of : FF := runD 5 f_widest_of
/-- widest: 0 told -/
def f_widest : SF := (sRet (evCall 1 F_widest_of (evCons (evCall 1 F_checked_findings (evCons (evV 0) evNil)) evNil)))
def F_widest : FF := runD 1 f_widest
/-- is_possible: 0 findings -/
def f_is_possible : SF := (sRet (evCall 2 F_agrees_with (evCons (evCall 1 F_widest_of (evCons (evV 0) evNil)) (evCons (evV 0) evNil))))
def F_is_possible : FF := runD 1 f_is_possible
/-- clash: 0 told, 1 findings, 2 kept, 3 at, 4 fewer, 5 one -/
def f_clash : SF := (sSeq (sSet 1 (evCall 1 F_checked_findings (evCons (evV 0) evNil))) (sSeq (sIf (evTru (evCall 1 F_is_possible (evCons (evV 1) evNil))) (sRet (evC .non)) sNil) (sSeq (sSet 2 (evLRg (ev1 gLen (evB 1)))) (sSeq (sFor (evR1 (ev1 gLen (evB 1))) (tgN 3) (sSeq (sSet 4 (evLc (evIt (evV 2)) (tgN 5) [5] (ev2 gNe (evB 5) (evB 3)) (evV 5))) (sIf (evNot (evTru (evCall 1 F_is_possible (evCons (evLc (evIt (evV 4)) (tgN 5) [5] (evC (.bl true)) (ev2 gIx (evB 1) (evB 5))) evNil)))) (sSet 2 (evV 4)) sNil))) (sRet (ev1 gTuple (evB 2)))))))
def F_clash : FF := runD 6 f_clash
/-- is_clash: 0 told, 1 value, 2 findings, 3 one, 4 at -/
def f_is_clash : SF := (sSeq (sSet 2 (evCall 1 F_checked_findings (evCons (evV 0) evNil))) (sSeq (sIf (evOr (evNot (evTru (ev1 (gIsi [.tuple]) (evB 1)))) (evNot (evTru (ev1 gAll (evLc (evIt (evV 1)) (tgN 3) [3] (evC (.bl true)) (evCall 2 F_is_index (evCons (evV 3) (evCons (ev1 gLen (evB 2)) evNil)))))))) (sRet (evC (.bl false))) sNil) (sSeq (sIf (evTru (ev1 gAny (evLc (evR1 (ev2 gSubI (ev1 gLen (evB 1)) (evC (.int 1)))) (tgN 4) [4] (evC (.bl true)) (ev2 gGe (ev2 gIx (evB 1) (evB 4)) (ev2 gIx (evB 1) (ev2 gAdd (evB 4) (evC (.int 1)))))))) (sRet (evC (.bl false))) sNil) (sSeq (sIf (evTru (evCall 1 F_is_possible (evCons (evLc (evIt (evV 1)) (tgN 3) [3] (evC (.bl true)) (ev2 gIx (evB 2) (evB 3))) evNil))) (sRet (evC (.bl false))) sNil) (sRet (ev1 gAll (evLc (evIt (evV 1)) (tgN 4) [4] (evC (.bl true)) (evCall 1 F_is_possible (evCons (evLc (evIt (evV 1)) (tgN 3) [3] (ev2 gNe (evB 3) (evB 4)) (ev2 gIx (evB 2) (evB 3))) evNil)))))))))
def F_is_clash : FF := runD 5 f_is_clash
/-- _law_of: 0 deal, 1 some -/
def f__law_of : SF := (sRet (ev2 gIx (evB 1) (evCall 2 F__law_any (evCons (evV 0) (evCons (ev1 gLen (evB 1)) evNil)))))
def F__law_of : FF := runD 2 f__law_of
/-- _law_mixed: 0 deal, 1 some, 2 left, 3 found -/
def f__law_mixed : SF := (sSeq (sParK 2 3 (ev1 gList (evB 1)) (evLst evNil)) (sSeq (sWhile (fuL 2) (ev2 gNe (evB 2) (evLst evNil)) (sAppPop 3 2 (evCall 2 F__law_any (evCons (evV 0) (evCons (ev1 gLen (evB 2)) evNil))))) (sRet (evM 3))))
def F__law_mixed : FF := runD 4 f__law_mixed
/-- _law_reordering: 0 deal, 1 many, 2 triple, 3 first, 4 last, 5 step, 6 p, 7 rest, 8 lot, 9 at, 10 place -/
def f__law_reordering : SF := (sSeq (sAsg (tgTup 3 (tgCons (tgN 3) (tgCons (tgN 4) (tgCons (tgN 5) tgNil)))) (evV 2)) (sSeq (sSet 6 (evLRg (evB 1))) (sSeq (sFor (evR1 (evB 5)) (tgN 7) (sSeq (sSet 8 (evLc (evR2 (evB 3) (ev2 gSubI (evB 1) (evB 4))) (tgN 10) [10] (ev2 gEq (ev2 gMod (ev1 gInt (ev2 gSubI (evB 10) (evB 3))) (evB 5)) (evB 7)) (evV 10))) (sFor (evEn (evCons (evCall 2 F__law_mixed (evCons (evV 0) (evCons (evV 8) evNil))) evNil)) (tgTup 2 (tgCons (tgN 9) (tgCons (tgN 10) tgNil))) (sPutI 6 (ev2 gIx (evB 8) (evB 9)) (evV 10))))) (sRet (ev1 gTuple (evB 6))))))
def F__law_reordering : FF := runD 11 f__law_reordering
/-- _law_near: 0 deal, 1 p, 2 i, 3 j -/
def f__law_near : SF := (sSeq (sSet 2 (evCall 2 F__law_any (evCons (evV 0) (evCons (ev2 gSubI (ev1 gLen (evB 1)) (evC (.int 1))) evNil)))) (sSeq (sSet 3 (ev2 gAdd (ev2 gAdd (evB 2) (evC (.int 1))) (evCall 2 F__law_any (evCons (evV 0) (evCons (ev2 gSubI (ev2 gSubI (ev1 gLen (evB 1)) (evC (.int 1))) (evB 2)) evNil))))) (sRet (ev2 gAdd (ev2 gAdd (ev2 gAdd (ev2 gAdd (evSl (evB 1) evON (evOS (evB 2))) (evTup (evCons (ev2 gIx (evB 1) (evB 3)) evNil))) (evSl (evB 1) (evOS (ev2 gAdd (evB 2) (evC (.int 1)))) (evOS (evB 3)))) (evTup (evCons (ev2 gIx (evB 1) (evB 2)) evNil))) (evSl (evB 1) (evOS (ev2 gAdd (evB 3) (evC (.int 1)))) evON)))))
def F__law_near : FF := runD 4 f__law_near
/-- _law_lets: 0 p, 1 triple, 2 first, 3 last, 4 step, 5 at, 6 place -/
def f__law_lets : SF := (sSeq (sAsg (tgTup 3 (tgCons (tgN 2) (tgCons (tgN 3) (tgCons (tgN 4) tgNil)))) (evV 1)) (sSeq (sFor (evEn (evCons (evV 0) evNil)) (tgTup 2 (tgCons (tgN 5) (tgCons (tgN 6) tgNil))) (sIf (evAnd (ev2 gNe (evB 6) (evB 5)) (evOr (ev2 gLt (evB 5) (evB 2)) (evOr (ev2 gGe (evB 5) (ev2 gSubI (ev1 gLen (evB 0)) (evB 3))) (ev2 gGt (ev2 gMod (ev1 gInt (ev2 gSubI (evB 6) (evB 5))) (evB 4)) (evC (.int 0)))))) (sRet (evC (.bl false))) sNil)) (sRet (evC (.bl true)))))
def F__law_lets : FF := runD 7 f__law_lets
/-- _law_frame: 0 p, 1 moved, 2 gaps, 3 fit, 4 at, 5 place, 6 step, 7 gap -/
def f__law_frame : SF := (sSeq (sSet 1 (evLc (evEn (evCons (evV 0) evNil)) (tgTup 2 (tgCons (tgN 4) (tgCons (tgN 5) tgNil))) [4, 5] (ev2 gNe (evB 5) (evB 4)) (evV 4))) (sSeq (sIf (ev2 gEq (evB 1) (evLst evNil)) (sRet (evC .non)) sNil) (sSeq (sSet 2 (evLc (evIt (evV 1)) (tgN 4) [4] (evC (.bl true)) (ev2 gMax2 (ev2 gSubI (evB 4) (ev2 gIx (evB 0) (evB 4))) (ev2 gSubI (ev2 gIx (evB 0) (evB 4)) (evB 4))))) (sSeq (sSet 3 (evLc (evR2 (evC (.int 1)) (ev2 gAdd (ev1 gMin (evB 2)) (evC (.int 1)))) (tgN 6) [6] (ev2 gEq (evLc (evIt (evV 2)) (tgN 7) [7] (ev2 gGt (ev2 gMod (ev1 gInt (evB 7)) (evB 6)) (evC (.int 0))) (evV 7)) (evLst evNil)) (evV 6))) (sRet (evTup (evCons (ev2 gIx (evB 1) (evC (.int 0))) (evCons (ev2 gSubI (ev2 gSubI (ev1 gLen (evB 0)) (evC (.int 1))) (ev2 gIx (evB 1) (evNeg (evC (.int 1))))) (evCons (ev2 gIx (evB 3) (evNeg (evC (.int 1)))) evNil)))))))))
def F__law_frame : FF := runD 8 f__law_frame
/-- _law_hidden: 0 deal -/
def f__law_hidden : SF := (sRet (evTup (evCons (evCall 2 F__law_any (evCons (evV 0) (evCons (evC (.int 4)) evNil))) (evCons (evCall 2 F__law_any (evCons (evV 0) (evCons (evC (.int 4)) evNil))) (evCons (evCall 2 F__law_of (evCons (evV 0) (evCons (evLst (evCons (evC (.int 1)) (evCons (evC (.int 1)) (evCons (evC (.int 2)) (evCons (evC (.int 2)) (evCons (evC (.int 3)) (evCons (evC (.int 4)) (evCons (evC (.int 5)) (evCons (evC (.int 6)) (evCons (evC (.int 8)) (evCons (evC (.int 12)) evNil))))))))))) evNil))) evNil)))))
def F__law_hidden : FF := runD 1 f__law_hidden
/-- _law_found: 0 deal, 1 hidden, 2 form, 3 many, 4 p, 5 a, 6 b, 7 s, 8 q -/
def f__law_found : SF := (sSeq (sParK 2 3 (evCall 2 F__law_any (evCons (evV 0) (evCons (evC (.int 8)) evNil))) (ev2 gAdd (ev1 gSumA (evB 1)) (evCall 2 F__law_any (evCons (evV 0) (evCons (evC (.int 9)) evNil))))) (sSeq (sSet 4 (evCall 3 F__law_reordering (evCons (evV 0) (evCons (evV 3) (evCons (evV 1) evNil))))) (sSeq (sIf (ev2 gEq (evB 2) (evC (.int 0))) (sRet (evTRg (evB 3))) sNil) (sSeq (sIf (ev2 gEq (evB 2) (evC (.int 1))) (sRet (ev1 gTuple (evCall 2 F__law_mixed (evCons (evV 0) (evCons (evLRg (evCall 2 F__law_any (evCons (evV 0) (evCons (evC (.int 9)) evNil)))) evNil))))) sNil) (sSeq (sIf (evAnd (ev2 gEq (evB 2) (evC (.int 2))) (ev2 gGt (evB 3) (evC (.int 1)))) (sRet (evCall 2 F__law_near (evCons (evV 0) (evCons (evV 4) evNil)))) sNil) (sSeq (sIf (ev2 gLt (evB 2) (evC (.int 6))) (sSeq (sAsg (tgUnl 3 (tgCons (tgN 5) (tgCons (tgN 6) (tgCons (tgN 7) tgNil)))) (evLst (evCons (ev2 gSubI (ev2 gAdd (ev2 gIx (evB 1) (evC (.int 0))) (evCall 2 F__law_any (evCons (evV 0) (evCons (evC (.int 3)) evNil)))) (evC (.int 1))) (evCons (ev2 gSubI (ev2 gAdd (ev2 gIx (evB 1) (evC (.int 1))) (evCall 2 F__law_any (evCons (evV 0) (evCons (evC (.int 3)) evNil)))) (evC (.int 1))) (evCons (ev2 gMul (ev2 gIx (evB 1) (evC (.int 2))) (ev2 gAdd (evC (.int 1)) (evCall 2 F__law_any (evCons (evV 0) (evCons (evC (.int 3)) evNil))))) evNil))))) (sSeq (sSet 7 (ev2 gMax2 (evC (.int 1)) (ev2 gFdiv (evB 7) (evCall 2 F__law_of (evCons (evV 0) (evCons (evLst (evCons (evC (.int 1)) (evCons (evC (.int 1)) (evCons (evC (.int 2)) (evCons (evC (.int 3)) evNil))))) evNil)))))) (sSeq (sSet 8 (evLRg (ev2 gAdd (ev2 gAdd (ev2 gAdd (ev2 gMax2 (evB 5) (evC (.int 0))) (evB 7)) (evC (.int 1))) (ev2 gMax2 (evB 6) (evC (.int 0)))))) (sSeq (sSwapI 8 (evCons (ev2 gAdd (ev2 gMax2 (evB 5) (evC (.int 0))) (evB 7)) (evCons (ev2 gMax2 (evB 5) (evC (.int 0))) evNil)) (ev2 gMax2 (evB 5) (evC (.int 0))) (ev2 gAdd (ev2 gMax2 (evB 5) (evC (.int 0))) (evB 7))) (sRet (ev1 gTuple (evB 8))))))) sNil) (sRet (evM 4))))))))
def F__law_found : FF := runD 9 f__law_found
/-- _law_findings: 0 deal, 1 hidden, 2 many, 3 wrong, 4 found, 5 turn, 6 p, 7 at -/
def f__law_findings : SF := (sSeq (sSet 4 (evLst evNil)) (sSeq (sFor (evR1 (evB 2)) (tgN 5) (sSeq (sSet 6 (evCall 2 F__law_found (evCons (evV 0) (evCons (evV 1) evNil)))) (sApp 4 (evTup (evCons (evV 6) (evCons (evCall 2 F__law_lets (evCons (evV 6) (evCons (evV 1) evNil))) evNil)))))) (sSeq (sIf (evAnd (evTru (evB 3)) (evAnd (ev2 gNe (evB 4) (evLst evNil)) (ev2 gEq (evCall 2 F__law_any (evCons (evV 0) (evCons (evC (.int 3)) evNil))) (evC (.int 0))))) (sSeq (sSet 7 (evCall 2 F__law_any (evCons (evV 0) (evCons (ev1 gLen (evB 4)) evNil)))) (sPutI 4 (evB 7) (evTup (evCons (ev2 gIx (ev2 gIx (evB 4) (evB 7)) (evC (.int 0))) (evCons (evNot (ev2 gIx (ev2 gIx (evB 4) (evB 7)) (evC (.int 1)))) evNil))))) sNil) (sRet (ev1 gTuple (evB 4))))))
def F__law_findings : FF := runD 8 f__law_findings
/-- _law_gcd: 0 one, 1 other -/
def f__law_gcd : SF := (sSeq (sWhile (fuI 1) (ev2 gGt (evB 1) (evC (.int 0))) (sParK 0 1 (evV 1) (ev2 gMod (ev1 gInt (evB 0)) (evB 1)))) (sRet (evM 0)))
def F__law_gcd : FF := runD 2 f__law_gcd
/-- _law_bound: 0 told, 1 frames, 2 step, 3 one, 4 p, 5 harmless -/
def f__law_bound : SF := (sSeq (sSet 1 (evLc (evIt (evV 0)) (tgTup 2 (tgCons (tgN 4) (tgCons (tgN 5) tgNil))) [4, 5] (evAnd (evTru (evB 5)) (ev2 gNotN (evCall 1 F__law_frame (evCons (evV 4) evNil)) (evC .non))) (evCall 1 F__law_frame (evCons (evV 4) evNil)))) (sSeq (sIf (ev2 gEq (evB 1) (evLst evNil)) (sRet (evC .non)) sNil) (sSeq (sSet 2 (evC (.int 0))) (sSeq (sFor (evIt (evV 1)) (tgN 3) (sSet 2 (evCall 2 F__law_gcd (evCons (evV 2) (evCons (ev2 gIx (evB 3) (evC (.int 2))) evNil))))) (sRet (evTup (evCons (ev1 gMin (evLc (evIt (evV 1)) (tgN 3) [3] (evC (.bl true)) (ev2 gIx (evB 3) (evC (.int 0))))) (evCons (ev1 gMin (evLc (evIt (evV 1)) (tgN 3) [3] (evC (.bl true)) (ev2 gIx (evB 3) (evC (.int 1))))) (evCons (evV 2) evNil)))))))))
def F__law_bound : FF := runD 6 f__law_bound
/-- _law_left: 0 told, 1 first, 2 last, 3 step, 4 harms, 5 found, 6 a, 7 b, 8 s, 9 p, 10 harmless, 11 h -/
def f__law_left : SF := (sSeq (sAsg (tgTup 3 (tgCons (tgN 1) (tgCons (tgN 2) (tgCons (tgN 3) tgNil)))) (evCall 1 F__law_bound (evCons (evV 0) evNil))) (sSeq (sParK 4 5 (evLc (evIt (evV 0)) (tgTup 2 (tgCons (tgN 9) (tgCons (tgN 10) tgNil))) [9, 10] (evNot (evTru (evB 10))) (evCall 1 F__law_frame (evCons (evV 9) evNil))) (evLst evNil)) (sSeq (sIf (ev2 gIn (evC .non) (evB 4)) (sRet (evLst evNil)) sNil) (sSeq (sFor (evR1 (ev2 gAdd (evB 1) (evC (.int 1)))) (tgN 6) (sFor (evR1 (ev2 gAdd (evB 2) (evC (.int 1)))) (tgN 7) (sFor (evR2 (evC (.int 1)) (ev2 gAdd (evB 3) (evC (.int 1)))) (tgN 8) (sIf (evAnd (ev2 gEq (ev2 gMod (ev1 gInt (evB 3)) (evB 8)) (evC (.int 0))) (ev2 gEq (evLc (evIt (evV 4)) (tgN 11) [11] (evAnd (ev2 gLe (evB 6) (ev2 gIx (evB 11) (evC (.int 0)))) (evAnd (ev2 gLe (evB 7) (ev2 gIx (evB 11) (evC (.int 1)))) (ev2 gEq (ev2 gMod (ev1 gInt (ev2 gIx (evB 11) (evC (.int 2)))) (evB 8)) (evC (.int 0))))) (evV 11)) (evLst evNil))) (sApp 5 (evTup (evCons (evV 6) (evCons (evV 7) (evCons (evV 8) evNil))))) sNil)))) (sRet (evM 5))))))
def F__law_left : FF := runD 12 f__law_left
/-- _law_possible: 0 told, 1 p, 2 harmless -/
def f__law_possible : SF := (sSeq (sIf (ev2 gNe (evLc (evIt (evV 0)) (tgTup 2 (tgCons (tgN 1) (tgCons (tgN 2) tgNil))) [1, 2] (evAnd (evNot (evTru (evB 2))) (ev2 gIsN (evCall 1 F__law_frame (evCons (evV 1) evNil)) (evC .non))) (evV 1)) (evLst evNil)) (sRet (evC (.bl false))) sNil) (sRet (evOr (ev2 gIsN (evCall 1 F__law_bound (evCons (evV 0) evNil)) (evC .non)) (ev2 gNe (evCall 1 F__law_left (evCons (evV 0) evNil)) (evLst evNil)))))
def F__law_possible : FF := runD 3 f__law_possible
/-- _law_clashes: 0 told, 1 value, 2 one, 3 at -/
def f__law_clashes : SF := (sSeq (sIf (evOr (evNot (evTru (ev1 (gIsi [.tuple]) (evB 1)))) (ev2 gNe (evLc (evIt (evV 1)) (tgN 2) [2] (evOr (evNot (evTru (ev1 (gIsi [.int]) (evB 2)))) (evTru (ev1 (gIsi [.bool]) (evB 2)))) (evV 2)) (evLst evNil))) (sRet (evC (.bl false))) sNil) (sSeq (sIf (evOr (ev2 gNe (ev1 gList (evB 1)) (ev1 gSortSet (evB 1))) (ev2 gNe (evLc (evIt (evV 1)) (tgN 2) [2] (evNot (ev3 gLe gLt (evC (.int 0)) (evB 2) (ev1 gLen (evB 0)))) (evV 2)) (evLst evNil))) (sRet (evC (.bl false))) sNil) (sSeq (sIf (evTru (evCall 1 F__law_possible (evCons (evLc (evIt (evV 1)) (tgN 2) [2] (evC (.bl true)) (ev2 gIx (evB 0) (evB 2))) evNil))) (sRet (evC (.bl false))) sNil) (sRet (ev2 gEq (evLc (evIt (evV 1)) (tgN 3) [3] (evNot (evTru (evCall 1 F__law_possible (evCons (evLc (evIt (evV 1)) (tgN 2) [2] (ev2 gNe (evB 2) (evB 3)) (ev2 gIx (evB 0) (evB 2))) evNil)))) (evV 3)) (evLst evNil))))))
def F__law_clashes : FF := runD 4 f__law_clashes
/-- _law_near_value: 0 deal, 1 value, 2 many, 3 row, 4 at, 5 spot, 6 some -/
def f__law_near_value : SF := (sSeq (sSet 3 (evIf (ev2 gNotN (evB 1) (evC .non)) (evV 1) (evTup (evCons (evC (.int 0)) evNil)))) (sSeq (sParK 4 5 (evCall 2 F__law_any (evCons (evV 0) (evCons (ev1 gLen (evB 3)) evNil))) (evCall 2 F__law_any (evCons (evV 0) (evCons (ev2 gAdd (evB 2) (evC (.int 1))) evNil)))) (sSeq (sSet 6 (evLst (evCons (evV 1) (evCons (ev2 gAdd (evSl (evB 3) evON (evOS (evB 4))) (evSl (evB 3) (evOS (ev2 gAdd (evB 4) (evC (.int 1)))) evON)) (evCons (ev1 gTuple (ev1 gSortedA (ev2 gAdd (evB 3) (evTup (evCons (evV 5) evNil))))) (evCons (ev2 gAdd (evB 3) (evTup (evCons (evV 5) evNil))) (evCons (ev1 gRev (evB 3)) (evCons (ev1 gList (evB 3)) (evCons (evC .non) (evCons (evTup evNil) evNil)))))))))) (sRet (evCall 2 F__law_of (evCons (evV 0) (evCons (ev2 gAdd (evB 6) (evLst (evCons (ev2 gAdd (ev2 gAdd (evSl (evB 3) evON (evOS (evB 4))) (evTup (evCons (evV 5) evNil))) (evSl (evB 3) (evOS (ev2 gAdd (evB 4) (evC (.int 1)))) evON)) (evCons (evTRg (evB 2)) (evCons (ev2 gAdd (evB 3) (evTup (evCons (evC (.bl true)) evNil))) (evCons (ev2 gAdd (evTup (evCons (ev2 gSubI (evC (.int 0)) (evC (.int 1))) evNil)) (evB 3)) evNil)))))) evNil)))))))
def F__law_near_value : FF := runD 7 f__law_near_value
/-- law: 0 script, 1 deal, 2 turn, 3 hidden, 4 told, 5 due, 6 value, 7 most, 8 more, 9 other -/
def f_law : SF := (sSeq (sFor (evR1 (evC (.int 2))) (tgN 2) (sSeq (sSet 3 (evCall 1 F__law_hidden (evCons (evV 1) evNil))) (sSeq (sSet 4 (evCall 4 F__law_findings (evCons (evV 1) (evCons (evV 3) (evCons (evCall 2 F__law_any (evCons (evV 1) (evCons (evC (.int 6)) evNil))) (evCons (evC (.bl true)) evNil)))))) (sSeq (sIf (ev2 gEq (evCall 2 F__law_any (evCons (evV 1) (evCons (evC (.int 2)) evNil))) (evC (.int 0))) (sSet 4 (evCall 2 F__law_mixed (evCons (evV 1) (evCons (ev1 gList (ev2 gAdd (evB 4) (evCall 4 F__law_findings (evCons (evV 1) (evCons (evCall 1 F__law_hidden (evCons (evV 1) evNil)) (evCons (ev2 gAdd (evC (.int 1)) (evCall 2 F__law_any (evCons (evV 1) (evCons (evC (.int 3)) evNil)))) (evCons (evC (.bl false)) evNil))))))) evNil)))) sNil) (sSeq (sSet 4 (ev1 gTuple (evB 4))) (sSeq (sSet 5 (evCall 1 F__law_possible (evCons (evV 4) evNil))) (sSeq (sParK 6 7 (evCallK 1 0 1 [0] F_clash evNil (evCons (ev1 gList (evB 4)) evNil)) (evCall 1 F_widest (evCons (evV 4) evNil))) (sSeq (sIf (evOr (ev2 gNe (ev2 gIsN (evB 6) (evC .non)) (evB 5)) (ev2 gNe (ev1 gRep0 (evCall 2 F_agrees (evCons (evV 7) (evCons (evV 4) evNil)))) (ev1 gRep0 (evB 5)))) (sRet (evC (.bl false))) sNil) (sSeq (sIf (evAnd (ev2 gNotN (evB 6) (evC .non)) (evNot (evTru (evCall 2 F__law_clashes (evCons (evV 4) (evCons (evV 6) evNil)))))) (sRet (evC (.bl false))) sNil) (sFor (evR1 (evC (.int 4))) (tgN 8) (sSeq (sSet 9 (evCall 3 F__law_near_value (evCons (evV 1) (evCons (evV 6) (evCons (ev1 gLen (evB 4)) evNil))))) (sIf (ev2 gNe (ev1 gRep0 (evCallK 2 0 2 [1, 0] F_is_clash evNil (evCons (evV 9) (evCons (evV 4) evNil)))) (ev1 gRep0 (evCall 2 F__law_clashes (evCons (evV 4) (evCons (evV 9) evNil))))) (sRet (evC (.bl false))) sNil)))))))))))) (sRet (evAnd (ev2 gIsB (evCall 2 F_is_clash (evCons (evLst (evCons (evTup (evCons (evTup (evCons (evC (.int 0)) (evCons (evC (.int 1)) evNil))) (evCons (evC (.bl false)) evNil))) evNil)) (evCons (evTup (evCons (evC (.int 0)) evNil)) evNil))) (evC (.bl true))) (ev2 gIsN (evCall 1 F_clash (evCons (evLst (evCons (evTup (evCons (evTup (evCons (evC (.int 1)) (evCons (evC (.int 0)) evNil))) (evCons (evC (.bl false)) evNil))) (evCons (evTup (evCons (evTup (evCons (evC (.int 0)) evNil)) (evCons (evC (.bl true)) evNil))) evNil))) evNil)) (evC .non)))))
end DL.K50
namespace DL.K50
open PySem PySem.Spec PyProof.Rows L2 DL
/-! ### plain kinds -/
def okD : D → Bool
  | .obj _ _ _ => false
  | .deal => false
  | _ => true
def isIntD : D → Bool
  | .int _ => true
  | _ => false
def isNumD : D → Bool
  | .int n => decide (0 ≤ n)
  | _ => false
def isIxD (m : Int) : D → Bool
  | .int n => decide (0 ≤ n) && decide (n < m)
  | _ => false
theorem is_integer_eq (d : D) (W : Wd) (h : okD d = true) : F_is_integer [d] W = .ret false (.bl (isIntD d)) W := by
  cases d <;> first | rfl | cases h
theorem is_number_eq (d : D) (W : Wd) (h : okD d = true) : F_is_number [d] W = .ret false (.bl (isNumD d)) W := by
  have e := is_integer_eq d W h
  cases d <;> first | cases h | skip
  all_goals
    simp [F_is_number, f_is_number, runD, startC, sRet, evAnd, evCall, evCons, evV, evNil, e, isIntD, isNumD, ev2, evB, evC, gGe, gI]
theorem is_index_eq (d : D) (m : Int) (W : Wd) (h : okD d = true) : F_is_index [d, .int m] W = .ret false (.bl (isIxD m d)) W := by
  have e := is_number_eq d W h
  cases d with
  | int n =>
    by_cases hn : 0 ≤ n
    · simp [F_is_index, f_is_index, runD, startC, sRet, evAnd, evCall, evCons, evV, evNil, e, isNumD, isIxD, ev2, evB, evC, gLt, gI, hn]
    · simp [F_is_index, f_is_index, runD, startC, sRet, evAnd, evCall, evCons, evV, evNil, e, isNumD, isIxD, ev2, evB, evC, gLt, gI, hn]
  | obj C ns ds => cases h
  | deal => cases h
  | _ => simp [F_is_index, f_is_index, runD, startC, sRet, evAnd, evCall, evCons, evV, evNil, e, isNumD, isIxD]
def isSeqD : D → Bool
  | .lst _ => true
  | .tup _ => true
  | _ => false
theorem is_sequence_eq (d : D) (W : Wd) (h : okD d = true) : F_is_sequence [d] W = .ret false (.bl (isSeqD d)) W := by
  cases d <;> first | rfl | cases h
theorem runD_of {m : Nat} {f : SF} {ds : List D} {W : Wd} {c : Cfg} {fr : Bool} {d : D} {W' : Wd} (hc : startC m ds W = c) (h : f c = .ret fr d W') : runD m f ds W = .ret fr d W' := by
  unfold runD
  rw [hc, h]
theorem seq_nx {f g : SF} {c c1 : Cfg} {r : SR} (h : f c = .nx c1) (h2 : g c1 = r) : sSeq f g c = r := by
  unfold sSeq
  rw [h]
  exact h2
theorem seq_ret {f g : SF} {c : Cfg} {fr : Bool} {d : D} {W : Wd} (h : f c = .ret fr d W) : sSeq f g c = .ret fr d W := by
  unfold sSeq
  rw [h]
  rfl
theorem big_of {n : Nat} (h : n ≤ 1000000) : n ≤ big := h
theorem evLst_ok {g : AF} {c c1 : Cfg} {ds : List D} (h : g c = .ok ds c1) (hl : ds.length ≤ 1000000) : evLst g c = .ok .fr (.lst ds) c1 := by
  unfold evLst
  rw [h, abind_ok, if_pos (big_of hl)]
theorem evTup_ok {g : AF} {c c1 : Cfg} {ds : List D} (h : g c = .ok ds c1) (hl : ds.length ≤ 1000000) : evTup g c = .ok .st (.tup ds) c1 := by
  unfold evTup
  rw [h, abind_ok, if_pos (big_of hl)]
theorem ev1_ok {g : D → Option (Kd × D)} {fa : EF} {c c1 : Cfg} {k1 k : Kd} {d1 d : D} (h1 : fa c = .ok k1 d1 c1) (h3 : g d1 = some (k, d)) : ev1 g fa c = .ok k d c1 := by
  unfold ev1
  rw [h1, bind_ok, h3]
  rfl
theorem ev2_ok {g : D → D → Option (Kd × D)} {fa fb : EF} {c c1 c2 : Cfg} {k1 k2 k : Kd} {d1 d2 d : D} (h1 : fa c = .ok k1 d1 c1) (h2 : fb c1 = .ok k2 d2 c2) (h3 : g d1 d2 = some (k, d)) : ev2 g fa fb c = .ok k d c2 := by
  unfold ev2
  rw [h1, bind_ok, h2, bind_ok, h3]
  rfl
theorem evCons_ok {fa : EF} {ga : AF} {c c1 c2 : Cfg} {k : Kd} {d : D} {ds : List D} (h1 : fa c = .ok k d c1) (hk : k ≠ .bo) (h2 : ga c1 = .ok ds c2) : evCons fa ga c = .ok (d :: ds) c2 := by
  unfold evCons
  rw [h1]
  cases k with
  | bo => exact absurd rfl hk
  | st =>
    dsimp only
    rw [h2]
    rfl
  | fr =>
    dsimp only
    rw [h2]
    rfl
theorem evCall_ok {n : Nat} {F : FF} {ga : AF} {c c1 : Cfg} {ds : List D} {fr : Bool} {d : D} {W' : Wd} (h1 : ga c = .ok ds c1) (hn : ds.length = n) (h2 : F ds c1.W = .ret fr d W') : evCall n F ga c = .ok (if fr then .fr else .st) d ⟨c1.r, W'⟩ := by
  unfold evCall
  rw [h1, abind_ok, if_pos hn, h2]
  rfl
theorem sSet_ok {i : Nat} {fa : EF} {c c1 : Cfg} {k : Kd} {d : D} {r : SR} (h : fa c = .ok k d c1) (h2 : putK i k d c1 = r) : sSet i fa c = r := by
  unfold sSet
  rw [h, toS_ok, h2]
theorem sRet_st {fa : EF} {c c1 : Cfg} {d : D} (h : fa c = .ok .st d c1) : sRet fa c = .ret false d c1.W := by
  unfold sRet
  rw [h, toS_ok]
theorem sRet_fr {fa : EF} {c c1 : Cfg} {d : D} (h : fa c = .ok .fr d c1) : sRet fa c = .ret true d c1.W := by
  unfold sRet
  rw [h, toS_ok]
theorem sIf_t {ft : EF} {f g : SF} {c c1 : Cfg} {k : Kd} {r : SR} (h : ft c = .ok k (.bl true) c1) (h2 : f c1 = r) : sIf ft f g c = r := by
  unfold sIf
  rw [h, toS_ok]
  exact h2
theorem sIf_f {ft : EF} {f g : SF} {c c1 : Cfg} {k : Kd} {r : SR} (h : ft c = .ok k (.bl false) c1) (h2 : g c1 = r) : sIf ft f g c = r := by
  unfold sIf
  rw [h, toS_ok]
  exact h2
theorem evAnd_t {fa fb : EF} {c c1 : Cfg} {k : Kd} {r : ER} (h : fa c = .ok k (.bl true) c1) (h2 : fb c1 = r) : evAnd fa fb c = r := by
  unfold evAnd
  rw [h, bind_ok]
  exact h2
theorem evAnd_f {fa fb : EF} {c c1 : Cfg} {k : Kd} (h : fa c = .ok k (.bl false) c1) : evAnd fa fb c = .ok .st (.bl false) c1 := by
  unfold evAnd
  rw [h, bind_ok]
  rfl
theorem evOr_f {fa fb : EF} {c c1 : Cfg} {k : Kd} {r : ER} (h : fa c = .ok k (.bl false) c1) (h2 : fb c1 = r) : evOr fa fb c = r := by
  unfold evOr
  rw [h, bind_ok]
  exact h2
theorem evOr_t {fa fb : EF} {c c1 : Cfg} {k : Kd} (h : fa c = .ok k (.bl true) c1) : evOr fa fb c = .ok .st (.bl true) c1 := by
  unfold evOr
  rw [h, bind_ok]
  rfl
theorem evNot_ok {fa : EF} {c c1 : Cfg} {k : Kd} {b : Bool} (h : fa c = .ok k (.bl b) c1) : evNot fa c = .ok .st (.bl (!b)) c1 := by
  unfold evNot
  rw [h, bind_ok]
theorem evTru_bl {fa : EF} {c c1 : Cfg} {k : Kd} {b : Bool} (h : fa c = .ok k (.bl b) c1) : evTru fa c = .ok .st (.bl b) c1 := by
  unfold evTru
  rw [h, bind_ok]
  rfl
theorem sFor_ok {it : AF} {tgt : D → Cfg → Option Cfg} {body : SF} {c c1 : Cfg} {ds : List D} {r : SR} (h : it c = .ok ds c1) (h2 : goFor tgt body ds c1 = r) : sFor it tgt body c = r := by
  unfold sFor
  rw [h]
  exact h2
/-! ### the greatest divisor -/
def gcdC (a b : Nat) (W : Wd) : Cfg := ⟨[some (false, .int a), some (false, .int b)], W⟩
theorem gcd_step (a b : Nat) (W : Wd) (hb : 0 < b) : sParK 0 1 (evV 1) (ev2 gMod (ev1 gInt (evB 0)) (evB 1)) (gcdC a b W) = .nx (gcdC b (a % b) W) := by
  have h : (0 : Int) < (b : Int) := by omega
  simp [sParK, evV, ev2, ev1, evB, gInt, gMod, gI, gcdC, hb, putK, Cfg.put]
theorem gcd_go (W : Wd) : ∀ (n a b : Nat), b < n → goWhile (ev2 gGt (evB 1) (evC (.int 0))) (sParK 0 1 (evV 1) (ev2 gMod (ev1 gInt (evB 0)) (evB 1))) n (gcdC a b W) = .nx (gcdC (Nat.gcd a b) 0 W)
  | 0, a, b, h => absurd h (Nat.not_lt_zero _)
  | n + 1, a, b, h => by
    have et : ev2 gGt (evB 1) (evC (.int 0)) (gcdC a b W) = .ok .st (.bl (decide ((0 : Int) < (b : Int)))) (gcdC a b W) := rfl
    unfold goWhile
    rw [et]
    by_cases hb : b = 0
    · subst hb
      simp [gcdC]
    · have h0 : 0 < b := Nat.pos_of_ne_zero hb
      have h1 : decide ((0 : Int) < (b : Int)) = true := decide_eq_true (by omega)
      rw [h1]
      simp only [toS_ok]
      rw [gcd_step a b W h0]
      dsimp only
      have hm := Nat.mod_lt a h0
      rw [gcd_go W n b (a % b) (by omega)]
      congr 2
      rw [Nat.gcd_comm a b, Nat.gcd_rec b a, Nat.gcd_comm]
theorem divisor_eq (a b : Nat) (W : Wd) : F_divisor [.int a, .int b] W = .ret false (.int (Nat.gcd a b : Nat)) W := by
  have h := gcd_go W (b + 2) a b (by omega)
  have e0 : startC 2 [.int a, .int b] W = gcdC a b W := rfl
  have e1 : fuI 1 (gcdC a b W) = b + 2 := by simp [fuI, gcdC]
  unfold F_divisor runD f_divisor
  rw [e0]
  unfold sSeq sWhile
  rw [e1, h]
  rfl
theorem law_gcd_eq (a b : Nat) (W : Wd) : F__law_gcd [.int a, .int b] W = .ret false (.int (Nat.gcd a b : Nat)) W := divisor_eq a b W
/-! ### comprehensions that keep the slots -/
theorem lc_pure {tgt : D → Cfg → Option Cfg} {vs : List Nat} {ft fe : EF} {c : Cfg} {t : D → Bool} {v : D → D} : ∀ (ds acc : List D), acc.length + ds.length ≤ big →
    (∀ d ∈ ds, ∃ c1, tgt d (c.wipe vs) = some c1 ∧ (∃ k, ft c1 = .ok k (.bl (t d)) c1) ∧ (t d = true → ∃ k, k ≠ .bo ∧ fe c1 = .ok k (v d) c1) ∧ Cfg.mrg vs c c1 = c) →
    goLc tgt vs ft fe ds acc c = .ok (acc ++ (ds.filter t).map v) c
  | [], acc, _, _ => by simp [goLc]
  | d :: ds, acc, hl, h => by
    obtain ⟨c1, e1, ⟨k, e2⟩, e3, e4⟩ := h d List.mem_cons_self
    have hr := fun d hd => h d (List.mem_cons_of_mem _ hd)
    have hb : acc.length < big := by
      simp at hl
      omega
    unfold goLc
    rw [e1]
    dsimp only
    rw [e2]
    cases ht : t d with
    | false =>
      dsimp only
      rw [e4, lc_pure ds acc (by simp at hl ⊢; omega) hr, List.filter_cons_of_neg (by simp [ht])]
    | true =>
      obtain ⟨k', hk, e5⟩ := e3 ht
      dsimp only
      rw [e5]
      cases k' with
      | bo => exact absurd rfl hk
      | st =>
        dsimp only
        rw [if_pos hb, e4, lc_pure ds _ (by simp at hl ⊢; omega) hr, List.filter_cons_of_pos ht]
        simp
      | fr =>
        dsimp only
        rw [if_pos hb, e4, lc_pure ds _ (by simp at hl ⊢; omega) hr, List.filter_cons_of_pos ht]
        simp
theorem evLc_pure {it : AF} {tgt : D → Cfg → Option Cfg} {vs : List Nat} {ft fe : EF} {c0 c : Cfg} {ds : List D} (t : D → Bool) (v : D → D) (hi : it c0 = .ok ds c) (hl : ds.length ≤ big)
    (h : ∀ d ∈ ds, ∃ c1, tgt d (c.wipe vs) = some c1 ∧ (∃ k, ft c1 = .ok k (.bl (t d)) c1) ∧ (t d = true → ∃ k, k ≠ .bo ∧ fe c1 = .ok k (v d) c1) ∧ Cfg.mrg vs c c1 = c) :
    evLc it tgt vs ft fe c0 = .ok .fr (.lst ((ds.filter t).map v)) c := by
  unfold evLc
  rw [hi]
  dsimp only
  rw [lc_pure ds [] (by simpa using hl) h]
  rfl
/-! ### places -/
@[simp] theorem gIx_lst {a : List D} {i : Int} : gIx (.lst a) (.int i) = (L2.atI a i).map fun d => (.st, d) := rfl
@[simp] theorem gIx_tup {a : List D} {i : Int} : gIx (.tup a) (.int i) = (L2.atI a i).map fun d => (.st, d) := rfl
theorem atI_nat {α : Type} {xs : List α} {i : Nat} (h : i < xs.length) : L2.atI xs (i : Int) = some xs[i] := by
  unfold L2.atI L2.ixN
  rw [if_pos (by omega), if_pos (by omega)]
  show xs[(i : Int).toNat]? = _
  rw [Int.toNat_natCast, List.getElem?_eq_getElem h]
theorem ixN_nat {n i : Nat} (h : i < n) : L2.ixN n (i : Int) = some i := by
  unfold L2.ixN
  rw [if_pos (by omega), if_pos (by omega), Int.toNat_natCast]
/-- a reordering -/
structure Pm (p : List Nat) : Prop where
  nd : p.Nodup
  lt : ∀ x ∈ p, x < p.length
  sz : p.length ≤ 1000
def nD (n : Nat) : D := .int (n : Int)
def pD (p : List Nat) : D := .tup (p.map nD)
/-- which places have been seen -/
def seenD (n : Nat) (done : List Nat) : List D := (List.range n).map fun i => D.bl (decide (i ∈ done))
theorem seenD_len {n : Nat} {done : List Nat} : (seenD n done).length = n := by simp [seenD]
theorem seenD_at {n x : Nat} {done : List Nat} (h : x < n) : L2.atI (seenD n done) (x : Int) = some (.bl (decide (x ∈ done))) := by
  rw [atI_nat (by rw [seenD_len]; exact h)]
  simp [seenD]
theorem seenD_set {n x : Nat} {done : List Nat} (h : x < n) : (seenD n done).set x (.bl true) = seenD n (x :: done) := by
  apply List.ext_getElem?
  intro j
  by_cases hj : x = j
  · subst hj
    rw [List.getElem?_set_self (by rw [seenD_len]; exact h)]
    simp [seenD, h]
  · rw [List.getElem?_set_ne hj]
    unfold seenD
    rw [List.getElem?_map, List.getElem?_map]
    cases e : (List.range n)[j]? with
    | none => rfl
    | some k =>
      have : k = j := by
        have hn : j < n := by simpa using (List.getElem?_eq_some_iff.mp e).1
        rw [List.getElem?_range hn] at e
        exact (Option.some.inj e).symm
      subst this
      simp [Ne.symm hj]
def faC (p done : List Nat) (a b : Option (Bool × D)) (W : Wd) : Cfg := ⟨[some (false, pD p), some (true, .lst (seenD p.length done)), a, b], W⟩
def faB : SF := (sSeq (sIf (evOr (evNot (evTru (evCall 2 F_is_index (evCons (evV 3) (evCons (ev1 gLen (evB 0)) evNil))))) (evTru (ev2 gIx (evB 1) (evB 3)))) (sRet (evM 2)) sNil) (sPutI 1 (evB 3) (evC (.bl true))))
theorem fault_step (p done : List Nat) (k x : Nat) (W : Wd) (hx : x < p.length) (hn : x ∉ done) : faB (faC p done (some (false, .int k)) (some (false, nD x)) W) = .nx (faC p (x :: done) (some (false, .int k)) (some (false, nD x)) W) := by
  have e1 : F_is_index [nD x, .int (p.length : Int)] W = .ret false (.bl true) W := by
    unfold nD
    rw [is_index_eq _ _ _ rfl]
    have : isIxD (p.length : Int) (.int (x : Int)) = true := by
      unfold isIxD
      simp only [Bool.and_eq_true, decide_eq_true_eq]
      omega
    rw [this]
  have e2 : gIx (.lst (seenD p.length done)) (.int (x : Int)) = some (.st, .bl false) := by
    rw [gIx_lst, seenD_at hx]
    simp [hn]
  have e3 : L2.ixN (seenD p.length done).length (x : Int) = some x := ixN_nat (by rw [seenD_len]; exact hx)
  unfold nD at e1
  simp [faB, sSeq, sIf, evOr, evNot, evTru, evCall, evCons, evV, evB, ev1, ev2, evNil, gLen, pD, faC, e1, seenD_at hx, hn, truD, sNil, sPutI, evC, ownL, nD, e3, Cfg.put, seenD_set hx]
abbrev tg2 (i j : Nat) : D → Cfg → Option Cfg := tgTup 2 (tgCons (tgN i) (tgCons (tgN j) tgNil))
theorem fault_go (p : List Nat) (W : Wd) : ∀ (ps done : List Nat) (k : Nat) (a b : Option (Bool × D)), (∀ x ∈ ps, x < p.length) → ps.Nodup → (∀ x ∈ ps, x ∉ done) →
    ∃ done' a' b', goFor (tg2 2 3) faB (enumD k (ps.map nD)) (faC p done a b W) = .nx (faC p done' a' b' W)
  | [], done, k, a, b, _, _, _ => ⟨done, a, b, rfl⟩
  | x :: ps, done, k, a, b, h1, h2, h3 => by
    rw [List.nodup_cons] at h2
    have hx := h1 x List.mem_cons_self
    obtain ⟨done', a', b', ih⟩ := fault_go p W ps (x :: done) (k + 1) (some (false, .int k)) (some (false, nD x)) (fun y hy => h1 y (List.mem_cons_of_mem _ hy)) h2.2 (fun y hy z => by
      rcases List.mem_cons.mp z with z | z
      · rw [z] at hy; exact h2.1 hy
      · exact h3 y (List.mem_cons_of_mem _ hy) z)
    refine ⟨done', a', b', ?_⟩
    rw [List.map_cons]
    unfold enumD goFor
    have e1 : tg2 2 3 (.tup [.int (k : Nat), nD x]) (faC p done a b W) = some (faC p done (some (false, .int k)) (some (false, nD x)) W) := rfl
    rw [e1]
    dsimp only
    rw [fault_step p done k x W hx (h3 x List.mem_cons_self)]
    exact ih
end DL.K50
namespace DL.K50
open PySem PySem.Spec PyProof.Rows L2 DL
theorem seen_nil (n : Nat) : (List.replicate n [D.bl false]).flatten = seenD n [] := by
  unfold seenD
  induction n with
  | zero => rfl
  | succ n ih => rw [List.replicate_succ', List.flatten_append, ih, List.range_succ, List.map_append]; simp
theorem fault_1 (F : FF) (p : List Nat) (W : Wd) (hs : F [pD p] W = .ret false (.bl true) W) : sIf (evNot (evTru (evCall 1 F (evCons (evV 0) evNil)))) (sRet (evC (.int 0))) sNil ⟨[some (false, pD p), none, none, none], W⟩ = .nx ⟨[some (false, pD p), none, none, none], W⟩ := by
  simp [sIf, evNot, evTru, evCall, evCons, evV, evNil, hs, truD, sNil]
theorem rep_false (n : Nat) (h : n ≤ 1000) : gMul (.lst [.bl false]) (.int (n : Int)) = some (.fr, .lst (seenD n [])) := by
  have h1 : gRepL (.lst [.bl false]) (.int (n : Int)) = some (.fr, .lst (List.replicate (n : Int).toNat [.bl false]).flatten) := by
    unfold gRepL
    dsimp only
    rw [if_pos]
    refine ⟨by omega, by omega, ?_⟩
    rw [Int.toNat_natCast]
    show 1 * n ≤ big
    unfold big
    omega
  rw [Int.toNat_natCast, seen_nil] at h1
  have h2 : gMulI (.lst [.bl false]) (.int (n : Int)) = none := rfl
  unfold gMul
  rw [h2, h1]
  rfl
theorem fault_2 (p : List Nat) (W : Wd) (h : Pm p) : sSet 1 (ev2 gMul (evLst (evCons (evC (.bl false)) evNil)) (ev1 gLen (evB 0))) ⟨[some (false, pD p), none, none, none], W⟩ = .nx (faC p [] none none W) := by
  have e1 : evLst (evCons (evC (.bl false)) evNil) ⟨[some (false, pD p), none, none, none], W⟩ = .ok .fr (.lst [.bl false]) ⟨[some (false, pD p), none, none, none], W⟩ := evLst_ok rfl (by show 1 ≤ _; omega)
  have e2 : ev1 gLen (evB 0) ⟨[some (false, pD p), none, none, none], W⟩ = .ok .st (.int (p.length : Int)) ⟨[some (false, pD p), none, none, none], W⟩ := by
    show ER.ok .st (.int ((p.map nD).length : Int)) _ = _
    rw [List.length_map]
  unfold sSet ev2
  rw [e1, bind_ok, e2, bind_ok, rep_false _ h.sz]
  rfl
theorem fault_eq (p : List Nat) (W : Wd) (h : Pm p) : F_fault [pD p] W = .ret false .non W := by
  obtain ⟨done', a', b', e⟩ := fault_go p W p [] 0 none none h.lt h.nd (fun _ _ => List.not_mem_nil)
  refine runD_of (c := ⟨[some (false, pD p), none, none, none], W⟩) rfl ?_
  refine seq_nx (fault_1 _ p W rfl) (seq_nx (fault_2 p W h) (seq_nx (c1 := faC p done' a' b' W) ?_ rfl))
  have e2 : evEn (evCons (evV 0) evNil) (faC p [] none none W) = .ok (enumD 0 (p.map nD)) (faC p [] none none W) := rfl
  unfold sFor
  rw [e2]
  exact e
theorem checked_gen (F : FF) (ds : List D) (W : Wd) (e : F [.tup ds] W = .ret false .non W) : runD 2 (sSeq (sSet 1 (evCall 1 F (evCons (evV 0) evNil))) (sSeq (sIf (ev2 gNotN (evB 1) (evC .non)) sBad sNil) (sRet (ev1 gTuple (evB 0))))) [.tup ds] W = .ret false (.tup ds) W := by
  refine runD_of (c := ⟨[some (false, .tup ds), none], W⟩) rfl ?_
  refine seq_nx (c1 := ⟨[some (false, .tup ds), some (false, .non)], W⟩) ?_ ?_
  · simp [sSet, evCall, evCons, evV, evNil, e, putK, Cfg.put]
  refine seq_nx (c1 := ⟨[some (false, .tup ds), some (false, .non)], W⟩) ?_ ?_
  · simp [sIf, ev2, evB, evC, gNotN, isNon, sNil]
  · simp [sRet, ev1, evB, gTuple]
theorem checked_reordering_eq (p : List Nat) (W : Wd) (h : Pm p) : F_checked_reordering [pD p] W = .ret false (pD p) W := checked_gen F_fault (p.map nD) W (fault_eq p W h)
/-! ### comparisons of ints -/
@[simp] theorem eqD_int {a b : Int} : eqD (.int a) (.int b) = some (decide (a = b)) := by
  unfold eqD
  rw [py_int, py_int]
  have : SeqAt.shaped (.int a) = true := rfl
  have h2 : SeqAt.shaped (.int b) = true := rfl
  simp only [this, h2, Bool.and_self, if_true]
  by_cases h : a = b
  · subst h; simp [PyData.eqv]
  · simp [PyData.eqv, h]
@[simp] theorem gEq_int {a b : Int} : gEq (.int a) (.int b) = some (.st, .bl (decide (a = b))) := by unfold gEq; rw [eqD_int]; rfl
@[simp] theorem gNe_int {a b : Int} : gNe (.int a) (.int b) = some (.st, .bl (!decide (a = b))) := by unfold gNe; rw [eqD_int]; rfl
/-! ### the frame of a reordering -/
/-- the places from k on that do not keep theirs -/
def movedF : Nat → List Nat → List Nat
  | _, [] => []
  | k, x :: xs => if x = k then movedF (k + 1) xs else k :: movedF (k + 1) xs
def moved (p : List Nat) : List Nat := movedF 0 p
def ne2 : D → Bool
  | .tup [.int i, .int x] => !decide (x = i)
  | _ => false
def fst2 : D → D
  | .tup [a, _] => a
  | d => d
theorem moved_map : ∀ (k : Nat) (p : List Nat), ((enumD k (p.map nD)).filter ne2).map fst2 = (movedF k p).map nD
  | k, [] => rfl
  | k, x :: xs => by
    rw [List.map_cons]
    unfold enumD movedF
    by_cases h : x = k
    · rw [if_pos h, List.filter_cons_of_neg (by simp [ne2, nD, h]), moved_map]
    · rw [if_neg h, List.filter_cons_of_pos (by simp [ne2, nD]; omega), List.map_cons, moved_map, List.map_cons]
      rfl
theorem enumD_mem : ∀ {k : Nat} {p : List Nat} {d : D}, d ∈ enumD k (p.map nD) → ∃ i x : Nat, d = .tup [.int i, nD x]
  | k, x :: xs, d, h => by
    rw [List.map_cons] at h
    unfold enumD at h
    rcases List.mem_cons.mp h with h | h
    · exact ⟨k, x, h⟩
    · exact enumD_mem h
theorem movedF_bd : ∀ {k : Nat} {p : List Nat} {i : Nat}, i ∈ movedF k p → k ≤ i ∧ i < k + p.length
  | k, x :: xs, i, h => by
    unfold movedF at h
    split at h
    · have := movedF_bd h
      simp
      omega
    · rcases List.mem_cons.mp h with h | h
      · simp
        omega
      · have := movedF_bd h
        simp
        omega
theorem movedF_len : ∀ (k : Nat) (p : List Nat), (movedF k p).length ≤ p.length
  | k, [] => Nat.le_refl _
  | k, x :: xs => by
    unfold movedF
    have := movedF_len (k + 1) xs
    split <;> simp <;> omega
theorem moved_lt {p : List Nat} {i : Nat} (h : i ∈ moved p) : i < p.length := by
  have := movedF_bd h
  omega
/-- how far the entry of a place goes -/
def dist (p : List Nat) (i : Nat) : Nat := ((p.getD i 0 : Int) - (i : Int)).natAbs
def gapG (p : List Nat) : List Nat → Nat → Nat
  | [], s => s
  | i :: is, s => gapG p is (Nat.gcd (dist p i) s)
abbrev T3 := Nat × Nat × Nat
def frP (p : List Nat) : Option T3 := match moved p with
  | [] => none
  | m :: ms => some (m, p.length - 1 - (m :: ms).getLast (by simp), gapG p (m :: ms) 0)
def tD (t : T3) : D := .tup [nD t.1, nD t.2.1, nD t.2.2]
def frD : Option T3 → D
  | none => .non
  | some t => tD t
def frC (p : List Nat) (x2 x3 x4 : Option (Bool × D)) (W : Wd) : Cfg := ⟨[some (false, pD p), some (false, pD p), x2, x3, x4, none], W⟩
theorem nD_at {p : List Nat} {i : Nat} (h : i < p.length) : L2.atI (p.map nD) (i : Int) = some (nD (p.getD i 0)) := by
  rw [atI_nat (by rw [List.length_map]; exact h)]
  simp [List.getD_eq_getElem?_getD, h]
theorem frame_go (p : List Nat) (W : Wd) (ms0 : List D) : ∀ (ms : List Nat) (s : Nat) (x4 : Option (Bool × D)), (∀ i ∈ ms, i < p.length) → ∃ y4, goFor (tgN 4) (sSet 3 (evCall 2 F_divisor (evCons (ev1 gAbs (ev2 gSubI (ev2 gIx (evB 1) (evB 4)) (evB 4))) (evCons (evV 3) evNil)))) (ms.map nD) (frC p (some (false, .lst ms0)) (some (false, nD s)) x4 W) =
    .nx (frC p (some (false, .lst ms0)) (some (false, nD (gapG p ms s))) y4 W)
  | [], s, x4, _ => ⟨x4, rfl⟩
  | i :: ms, s, x4, h => by
    obtain ⟨y4, ih⟩ := frame_go p W ms0 ms (Nat.gcd (dist p i) s) (some (false, nD i)) (fun j hj => h j (List.mem_cons_of_mem _ hj))
    refine ⟨y4, ?_⟩
    rw [List.map_cons]
    unfold goFor
    have e1 : tgN 4 (nD i) (frC p (some (false, .lst ms0)) (some (false, nD s)) x4 W) = some (frC p (some (false, .lst ms0)) (some (false, nD s)) (some (false, nD i)) W) := rfl
    rw [e1]
    dsimp only
    have e2 : sSet 3 (evCall 2 F_divisor (evCons (ev1 gAbs (ev2 gSubI (ev2 gIx (evB 1) (evB 4)) (evB 4))) (evCons (evV 3) evNil))) (frC p (some (false, .lst ms0)) (some (false, nD s)) (some (false, nD i)) W) = .nx (frC p (some (false, .lst ms0)) (some (false, nD (Nat.gcd (dist p i) s))) (some (false, nD i)) W) := by
      have hd := divisor_eq (dist p i) s W
      have hz : (if (p.getD i 0 : Int) - (i : Int) < 0 then -((p.getD i 0 : Int) - (i : Int)) else (p.getD i 0 : Int) - (i : Int)) = (dist p i : Int) := by
        unfold dist
        omega
      have ha := nD_at (h i List.mem_cons_self)
      generalize F_divisor = F at hd ⊢
      have e3 : ev1 gAbs (ev2 gSubI (ev2 gIx (evB 1) (evB 4)) (evB 4)) (frC p (some (false, .lst ms0)) (some (false, nD s)) (some (false, nD i)) W) = .ok .st (.int (dist p i)) (frC p (some (false, .lst ms0)) (some (false, nD s)) (some (false, nD i)) W) := by
        rw [← hz]
        unfold ev1 ev2
        show ER.bind (ER.bind (ofO _ ((L2.atI (p.map nD) (i : Int)).map fun d => (Kd.st, d))) _) _ = _
        rw [ha]
        rfl
      unfold sSet evCall evCons
      rw [e3]
      simp [evCons, evV, frC, evNil, nD, hd, putK, Cfg.put]
    rw [e2]
    exact ih
theorem atI_last {α : Type} {xs : List α} (h : xs ≠ []) : L2.atI xs (-1) = some (xs.getLast h) := by
  unfold L2.atI L2.ixN
  have hl : 0 < xs.length := List.length_pos_iff.mpr h
  rw [if_neg (by decide), if_pos (by omega)]
  show xs[(-1 + (xs.length : Int)).toNat]? = _
  rw [show (-1 + (xs.length : Int)).toNat = xs.length - 1 by omega, List.getElem?_eq_getElem (by omega), List.getLast_eq_getElem]
theorem sz_big {p : List Nat} (h : Pm p) (k : Nat) : (enumD k (p.map nD)).length ≤ big := by
  rw [enumD_len, List.length_map]
  exact big_of (by have := h.sz; omega)
theorem frame_mv (p : List Nat) (W : Wd) (h : Pm p) : evLc (evEn (evCons (evV 1) evNil)) (tg2 4 5) [4, 5] (ev2 gNe (evB 5) (evB 4)) (evV 4) ⟨[some (false, pD p), some (false, pD p), none, none, none, none], W⟩ = .ok .fr (.lst ((moved p).map nD)) ⟨[some (false, pD p), some (false, pD p), none, none, none, none], W⟩ := by
  have e := evLc_pure (it := evEn (evCons (evV 1) evNil)) (tgt := tg2 4 5) (vs := [4, 5]) (ft := ev2 gNe (evB 5) (evB 4)) (fe := evV 4) (c0 := ⟨[some (false, pD p), some (false, pD p), none, none, none, none], W⟩) (c := ⟨[some (false, pD p), some (false, pD p), none, none, none, none], W⟩) (ds := enumD 0 (p.map nD)) ne2 fst2 rfl (sz_big h 0) (fun d hd => by
    obtain ⟨i, x, rfl⟩ := enumD_mem hd
    refine ⟨⟨[some (false, pD p), some (false, pD p), none, none, some (false, .int i), some (false, nD x)], W⟩, rfl, ⟨.st, ?_⟩, fun _ => ⟨.st, by simp, rfl⟩, rfl⟩
    simp [ev2, evB, nD, ne2])
  rw [moved_map] at e
  exact e
theorem frame_eq (p : List Nat) (W : Wd) (h : Pm p) : F_frame [pD p] W = .ret false (frD (frP p)) W := by
  have hc := checked_reordering_eq p W h
  have hm := frame_mv p W h
  refine runD_of (c := ⟨[some (false, pD p), none, none, none, none, none], W⟩) rfl ?_
  refine seq_nx (c1 := ⟨[some (false, pD p), some (false, pD p), none, none, none, none], W⟩) ?_ ?_
  · exact sSet_ok (evCall_ok (ds := [pD p]) (c1 := ⟨[some (false, pD p), none, none, none, none, none], W⟩) (evCons_ok (k := .st) rfl (by simp) rfl) rfl hc) rfl
  refine seq_nx (c1 := ⟨[some (false, pD p), some (false, pD p), some (true, .lst ((moved p).map nD)), none, none, none], W⟩) ?_ ?_
  · unfold sSet
    rw [hm]
    rfl
  cases hms : moved p with
  | nil =>
    have e : frP p = none := by unfold frP; rw [hms]
    rw [e]
    refine seq_ret ?_
    simp [sIf, ev2, ev1, evB, gLen, evC, sRet, frD]
  | cons m ms =>
    have e : frP p = some (m, p.length - 1 - (m :: ms).getLast (by simp), gapG p (m :: ms) 0) := by
      unfold frP
      rw [hms]
    rw [e]
    have hlt : ∀ i ∈ m :: ms, i < p.length := fun i hi => moved_lt (by rw [hms]; exact hi)
    refine seq_nx (c1 := ⟨[some (false, pD p), some (false, pD p), some (true, .lst ((m :: ms).map nD)), none, none, none], W⟩) ?_ ?_
    · have : ((ms.length : Int) + 1 = 0) = False := by simp; omega
      simp [sIf, ev2, ev1, evB, gLen, evC, sNil, this]
    refine seq_nx (c1 := ⟨[some (false, pD p), some (false, pD p), some (true, .lst ((m :: ms).map nD)), some (false, nD 0), none, none], W⟩) rfl ?_
    obtain ⟨y4, eg⟩ := frame_go p W ((m :: ms).map nD) (m :: ms) 0 none hlt
    refine seq_nx (c1 := frC p (some (false, .lst ((m :: ms).map nD))) (some (false, nD (gapG p (m :: ms) 0))) y4 W) ?_ ?_
    · exact sFor_ok (ds := (m :: ms).map nD) (c1 := frC p (some (false, .lst ((m :: ms).map nD))) (some (false, nD 0)) none W) rfl eg
    · have hlast := hlt _ (List.getLast_mem (l := m :: ms) (by simp))
      have e0 : L2.atI ((m :: ms).map nD) (0 : Int) = some (nD m) := atI_nat (xs := (m :: ms).map nD) (i := 0) (by simp)
      have e1 : L2.atI ((m :: ms).map nD) (-1 : Int) = some (nD ((m :: ms).getLast (by simp))) := by
        rw [atI_last (by simp), List.getLast_map]
      have e2 : ((p.length : Int) - 1 - (((m :: ms).getLast (by simp) : Nat) : Int)) = ((p.length - 1 - (m :: ms).getLast (by simp) : Nat) : Int) := by omega
      generalize hl : (m :: ms).getLast (by simp) = l at hlast e1 e2 ⊢
      have q1 : evB 2 (frC p (some (false, .lst ((m :: ms).map nD))) (some (false, nD (gapG p (m :: ms) 0))) y4 W) = .ok .bo (.lst ((m :: ms).map nD)) (frC p (some (false, .lst ((m :: ms).map nD))) (some (false, nD (gapG p (m :: ms) 0))) y4 W) := rfl
      have q2 : ev1 gLen (evB 1) (frC p (some (false, .lst ((m :: ms).map nD))) (some (false, nD (gapG p (m :: ms) 0))) y4 W) = .ok .st (.int (p.length : Int)) (frC p (some (false, .lst ((m :: ms).map nD))) (some (false, nD (gapG p (m :: ms) 0))) y4 W) := ev1_ok (d1 := pD p) rfl (by
        show some (Kd.st, D.int ((p.map nD).length : Int)) = _
        rw [List.length_map])
      have g1 : gIx (.lst ((m :: ms).map nD)) (.int 0) = some (.st, nD m) := by rw [gIx_lst, e0]; rfl
      have g2 : gIx (.lst ((m :: ms).map nD)) (.int (-1)) = some (.st, nD l) := by rw [gIx_lst, e1]; rfl
      have g3 : gSubI (.int ((p.length : Int) - 1)) (nD l) = some (.st, nD (p.length - 1 - l)) := by
        show some (Kd.st, D.int ((p.length : Int) - 1 - (l : Int))) = _
        rw [e2]
        rfl
      refine sRet_st (d := tD (m, p.length - 1 - l, gapG p (m :: ms) 0)) (c1 := frC p (some (false, .lst ((m :: ms).map nD))) (some (false, nD (gapG p (m :: ms) 0))) y4 W) ?_
      refine evTup_ok (ds := [nD m, nD (p.length - 1 - l), nD (gapG p (m :: ms) 0)]) ?_ (by simp)
      refine evCons_ok (ev2_ok q1 (k2 := .st) (d2 := .int 0) rfl g1) (by simp) ?_
      refine evCons_ok (k := .st) (ev2_ok (d1 := .int ((p.length : Int) - 1)) (ev2_ok q2 (k2 := .st) (d2 := .int 1) rfl rfl) (ev2_ok q1 (k2 := .st) (d2 := .int (-1)) rfl g2) g3) (by simp) ?_
      exact evCons_ok (k := .st) rfl (by simp) rfl
end DL.K50
namespace DL.K50
open PySem PySem.Spec PyProof.Rows L2 DL
theorem evCall_c {n : Nat} {F : FF} {ga : AF} {c : Cfg} {r : List (Option (Bool × D))} {W W' : Wd} {ds : List D} {d : D} (h1 : ga c = .ok ds ⟨r, W⟩) (hn : ds.length = n) (h2 : F ds W = .ret false d W') : evCall n F ga c = .ok .st d ⟨r, W'⟩ := evCall_ok h1 hn h2
theorem evCall_fr {n : Nat} {F : FF} {ga : AF} {c : Cfg} {r : List (Option (Bool × D))} {W W' : Wd} {ds : List D} {d : D} (h1 : ga c = .ok ds ⟨r, W⟩) (hn : ds.length = n) (h2 : F ds W = .ret true d W') : evCall n F ga c = .ok .fr d ⟨r, W'⟩ := evCall_ok h1 hn h2
theorem evNotTru_t {fa : EF} {c c1 : Cfg} {k : Kd} (h : fa c = .ok k (.bl true) c1) : evNot (evTru fa) c = .ok .st (.bl false) c1 := evNot_ok (evTru_bl h)
theorem evNotTru_f {fa : EF} {c c1 : Cfg} {k : Kd} (h : fa c = .ok k (.bl false) c1) : evNot (evTru fa) c = .ok .st (.bl true) c1 := evNot_ok (evTru_bl h)
theorem evTru_t {fa : EF} {c c1 : Cfg} {k : Kd} {b : Bool} (h : fa c = .ok k (.bl b) c1) : evTru fa c = .ok .st (.bl b) c1 := evTru_bl h
/-! ### what a triple allows -/
def allowsO (o : Option T3) : Option T3 → Bool
  | none => true
  | some fr => match o with
    | none => false
    | some t => decide (t.1 ≤ fr.1) && decide (t.2.1 ≤ fr.2.1) && decide (t.2.2 ∣ fr.2.2)
theorem gapG_dvd (p : List Nat) (s : Nat) : ∀ (ms : List Nat) (t : Nat), s ∣ gapG p ms t ↔ s ∣ t ∧ ∀ i ∈ ms, s ∣ dist p i
  | [], t => by simp [gapG]
  | i :: ms, t => by
    unfold gapG
    rw [gapG_dvd p s ms, Nat.dvd_gcd_iff]
    simp only [List.mem_cons, forall_eq_or_imp]
    constructor
    · rintro ⟨⟨h1, h2⟩, h3⟩
      exact ⟨h2, h1, h3⟩
    · rintro ⟨h2, h1, h3⟩
      exact ⟨⟨h1, h2⟩, h3⟩
theorem mod_dist (p : List Nat) (i s : Nat) : (((p.getD i 0 : Int) - (i : Int)) % (s : Int) = 0) ↔ s ∣ dist p i := by
  unfold dist
  constructor
  · intro h
    exact Int.natCast_dvd_natCast.mp (by
      have := Int.dvd_of_emod_eq_zero h
      rw [Int.dvd_natAbs]
      exact this)
  · intro h
    have h2 : (s : Int) ∣ (((p.getD i 0 : Int) - (i : Int)).natAbs : Int) := Int.natCast_dvd_natCast.mpr h
    rw [Int.dvd_natAbs] at h2
    exact Int.emod_eq_zero_of_dvd h2
def alC (o : Option T3) (p : List Nat) (x3 x4 x5 x6 : Option (Bool × D)) (W : Wd) : Cfg := ⟨[some (false, frD o), some (false, pD p), some (false, pD p), x3, x4, x5, x6, none, none], W⟩
theorem al_mv (o : Option T3) (p : List Nat) (W : Wd) (h : Pm p) : evLc (evEn (evCons (evV 2) evNil)) (tg2 7 8) [7, 8] (ev2 gNe (evB 8) (evB 7)) (evV 7) (alC o p none none none none W) = .ok .fr (.lst ((moved p).map nD)) (alC o p none none none none W) := by
  have e := evLc_pure (it := evEn (evCons (evV 2) evNil)) (tgt := tg2 7 8) (vs := [7, 8]) (ft := ev2 gNe (evB 8) (evB 7)) (fe := evV 7) (c0 := alC o p none none none none W) (c := alC o p none none none none W) (ds := enumD 0 (p.map nD)) ne2 fst2 rfl (sz_big h 0) (fun d hd => by
    obtain ⟨i, x, rfl⟩ := enumD_mem hd
    refine ⟨⟨[some (false, frD o), some (false, pD p), some (false, pD p), none, none, none, none, some (false, .int i), some (false, nD x)], W⟩, rfl, ⟨.st, ?_⟩, fun _ => ⟨.st, by simp, rfl⟩, rfl⟩
    exact ev2_ok (k1 := .bo) (d1 := nD x) (k2 := .bo) (d2 := .int i) rfl rfl (by simp [nD, ne2]))
  rw [moved_map] at e
  exact e
theorem asB_map (bs : List Bool) : gAll (.lst (bs.map D.bl)) = some (.st, .bl (bs.all id)) := by
  have : asB (bs.map D.bl) = some bs := by
    induction bs with
    | nil => rfl
    | cons b bs ih => simp [asB, ih]
  unfold gAll gOnB
  show (asB (bs.map D.bl)).bind _ = _
  rw [this]
  rfl
theorem al_all (t : T3) (p : List Nat) (W : Wd) (hs : 0 < t.2.2) (ms : List Nat) (hm : ∀ i ∈ ms, i < p.length) (hl : ms.length ≤ 1000) (x4 x5 : Option (Bool × D)) :
    evLc (evIt (evV 3)) (tgN 7) [7] (evC (.bl true)) (ev2 gEq (ev2 gMod (ev2 gSubI (ev2 gIx (evB 2) (evB 7)) (evB 7)) (evB 6)) (evC (.int 0))) (alC (some t) p (some (true, .lst (ms.map nD))) x4 x5 (some (false, nD t.2.2)) W) =
      .ok .fr (.lst ((ms.map fun i => decide (t.2.2 ∣ dist p i)).map D.bl)) (alC (some t) p (some (false, .lst (ms.map nD))) x4 x5 (some (false, nD t.2.2)) W) := by
  have e := evLc_pure (it := evIt (evV 3)) (tgt := tgN 7) (vs := [7]) (ft := evC (.bl true)) (fe := ev2 gEq (ev2 gMod (ev2 gSubI (ev2 gIx (evB 2) (evB 7)) (evB 7)) (evB 6)) (evC (.int 0))) (c0 := alC (some t) p (some (true, .lst (ms.map nD))) x4 x5 (some (false, nD t.2.2)) W) (c := alC (some t) p (some (false, .lst (ms.map nD))) x4 x5 (some (false, nD t.2.2)) W) (ds := ms.map nD) (fun _ => true)
    (fun d => match d with | .int i => .bl (decide (t.2.2 ∣ dist p i.toNat)) | _ => .non) rfl (by rw [List.length_map]; exact big_of (by omega)) (fun d hd => by
    obtain ⟨i, hi, rfl⟩ := List.mem_map.mp hd
    refine ⟨⟨[some (false, frD (some t)), some (false, pD p), some (false, pD p), some (false, .lst (ms.map nD)), x4, x5, some (false, nD t.2.2), some (false, nD i), none], W⟩, rfl, ⟨.st, rfl⟩, fun _ => ⟨.st, by simp, ?_⟩, rfl⟩
    have g1 : gIx (pD p) (nD i) = some (.st, nD (p.getD i 0)) := by
      show gIx (.tup (p.map nD)) (.int (i : Int)) = _
      rw [gIx_tup, nD_at (hm i hi)]
      rfl
    have g2 : gMod (.int ((p.getD i 0 : Int) - (i : Int))) (nD t.2.2) = some (.st, .int (((p.getD i 0 : Int) - (i : Int)) % (t.2.2 : Int))) := by
      have : (0 : Int) < (t.2.2 : Int) := by omega
      show ((if (0 : Int) < (t.2.2 : Int) then some (D.int (((p.getD i 0 : Int) - (i : Int)) % (t.2.2 : Int))) else none).map fun d => (Kd.st, d)) = _
      rw [if_pos this]
      rfl
    have g3 : gEq (.int (((p.getD i 0 : Int) - (i : Int)) % (t.2.2 : Int))) (.int 0) = some (.st, .bl (decide (t.2.2 ∣ dist p i))) := by
      rw [gEq_int]
      congr 3
      exact decide_eq_decide.mpr (mod_dist p i t.2.2)
    exact ev2_ok (ev2_ok (ev2_ok (k2 := .bo) (d2 := nD i) (ev2_ok (k1 := .bo) (d1 := pD p) (k2 := .bo) (d2 := nD i) rfl rfl g1) rfl rfl) (k2 := .bo) (d2 := nD t.2.2) rfl g2) (k2 := .st) (d2 := .int 0) rfl g3)
  rw [e, List.filter_eq_self.mpr (fun _ _ => rfl), List.map_map, List.map_map]
  rfl
theorem allows_iff {p : List Nat} {m : Nat} {ms : List Nat} (hm : moved p = m :: ms) (t : T3) : allowsO (some t) (frP p) = (decide (t.1 ≤ m) && decide (t.2.1 ≤ p.length - 1 - (m :: ms).getLast (by simp)) && (m :: ms).all fun i => decide (t.2.2 ∣ dist p i)) := by
  have e : frP p = some (m, p.length - 1 - (m :: ms).getLast (by simp), gapG p (m :: ms) 0) := by
    unfold frP
    rw [hm]
  rw [e]
  show (decide _ && decide _ && decide (t.2.2 ∣ gapG p (m :: ms) 0)) = _
  congr 1
  rw [Bool.eq_iff_iff, decide_eq_true_eq, gapG_dvd, List.all_eq_true]
  constructor
  · rintro ⟨_, h⟩ i hi
    exact decide_eq_true (h i hi)
  · intro h
    exact ⟨Nat.dvd_zero _, fun i hi => of_decide_eq_true (h i hi)⟩
theorem is_allowed_eq (o : Option T3) (p : List Nat) (W : Wd) (h : Pm p) (ho : ∀ t, o = some t → 0 < t.2.2) : F_is_allowed [frD o, pD p] W = .ret false (.bl (allowsO o (frP p))) W := by
  have hc := checked_reordering_eq p W h
  have hmv := al_mv o p W h
  refine runD_of (c := ⟨[some (false, frD o), some (false, pD p), none, none, none, none, none, none, none], W⟩) rfl ?_
  refine seq_nx (c1 := alC o p none none none none W) (sSet_ok (evCall_ok (ds := [pD p]) (c1 := ⟨[some (false, frD o), some (false, pD p), none, none, none, none, none, none, none], W⟩) (evCons_ok (k := .st) rfl (by simp) rfl) rfl hc) rfl) ?_
  refine seq_nx (c1 := alC o p (some (true, .lst ((moved p).map nD))) none none none W) (sSet_ok hmv rfl) ?_
  have hlen : ev1 gLen (evB 3) (alC o p (some (true, .lst ((moved p).map nD))) none none none W) = .ok .st (.int ((moved p).length : Int)) (alC o p (some (true, .lst ((moved p).map nD))) none none none W) := ev1_ok (k1 := .bo) (d1 := .lst ((moved p).map nD)) rfl (by
    show some (Kd.st, D.int (((moved p).map nD).length : Int)) = _
    rw [List.length_map])
  have hlen0 : ev2 gEq (ev1 gLen (evB 3)) (evC (.int 0)) (alC o p (some (true, .lst ((moved p).map nD))) none none none W) = .ok .st (.bl (decide (((moved p).length : Int) = 0))) (alC o p (some (true, .lst ((moved p).map nD))) none none none W) := ev2_ok hlen (k2 := .st) (d2 := .int 0) rfl gEq_int
  have hisN : ev2 gIsN (evB 0) (evC .non) (alC o p (some (true, .lst ((moved p).map nD))) none none none W) = .ok .st (.bl o.isNone) (alC o p (some (true, .lst ((moved p).map nD))) none none none W) := by
    refine ev2_ok (k1 := .bo) (d1 := frD o) (k2 := .st) (d2 := .non) rfl rfl ?_
    cases o <;> rfl
  cases hms : moved p with
  | nil =>
    have ef : frP p = none := by unfold frP; rw [hms]
    rw [hms] at hlen0 hisN
    rw [ef]
    refine seq_ret ?_
    have ht : evOr (ev2 gIsN (evB 0) (evC .non)) (ev2 gEq (ev1 gLen (evB 3)) (evC (.int 0))) (alC o p (some (true, .lst (([] : List Nat).map nD))) none none none W) = .ok .st (.bl true) (alC o p (some (true, .lst (([] : List Nat).map nD))) none none none W) := by
      cases o with
      | none => exact evOr_t hisN
      | some t => exact evOr_f hisN hlen0
    exact sIf_t ht (sRet_st hlen0)
  | cons m ms =>
    rw [hms] at hlen0 hisN
    have hz : decide ((((m :: ms).length : Nat) : Int) = 0) = false := decide_eq_false (by simp; omega)
    rw [hz] at hlen0
    cases o with
    | none =>
      have ef : allowsO none (frP p) = false := by
        unfold frP
        rw [hms]
        rfl
      rw [ef]
      exact seq_ret (sIf_t (evOr_t hisN) (sRet_st hlen0))
    | some t =>
      have hs := ho t rfl
      rw [allows_iff hms t]
      refine seq_nx (sIf_f (evOr_f hisN hlen0) rfl) ?_
      refine seq_nx (c1 := alC (some t) p (some (true, .lst ((m :: ms).map nD))) (some (false, nD t.1)) (some (false, nD t.2.1)) (some (false, nD t.2.2)) W) rfl ?_
      have hlt : ∀ i ∈ m :: ms, i < p.length := fun i hi => moved_lt (by rw [hms]; exact hi)
      have hlast := hlt _ (List.getLast_mem (l := m :: ms) (by simp))
      have e0 : L2.atI ((m :: ms).map nD) (0 : Int) = some (nD m) := atI_nat (xs := (m :: ms).map nD) (i := 0) (by simp)
      have e1 : L2.atI ((m :: ms).map nD) (-1 : Int) = some (nD ((m :: ms).getLast (by simp))) := by
        rw [atI_last (by simp), List.getLast_map]
      generalize hl : (m :: ms).getLast (by simp) = l at hlast e1 ⊢
      have g1 : gIx (.lst ((m :: ms).map nD)) (.int 0) = some (.st, nD m) := by rw [gIx_lst, e0]; rfl
      have g2 : gIx (.lst ((m :: ms).map nD)) (.int (-1)) = some (.st, nD l) := by rw [gIx_lst, e1]; rfl
      have q2 : ev1 gLen (evB 2) (alC (some t) p (some (true, .lst ((m :: ms).map nD))) (some (false, nD t.1)) (some (false, nD t.2.1)) (some (false, nD t.2.2)) W) = .ok .st (.int (p.length : Int)) (alC (some t) p (some (true, .lst ((m :: ms).map nD))) (some (false, nD t.1)) (some (false, nD t.2.1)) (some (false, nD t.2.2)) W) := ev1_ok (k1 := .bo) (d1 := pD p) rfl (by
        show some (Kd.st, D.int ((p.map nD).length : Int)) = _
        rw [List.length_map])
      have t1 : ev2 gLt (ev2 gIx (evB 3) (evC (.int 0))) (evB 4) (alC (some t) p (some (true, .lst ((m :: ms).map nD))) (some (false, nD t.1)) (some (false, nD t.2.1)) (some (false, nD t.2.2)) W) = .ok .st (.bl (decide ((m : Int) < (t.1 : Int)))) (alC (some t) p (some (true, .lst ((m :: ms).map nD))) (some (false, nD t.1)) (some (false, nD t.2.1)) (some (false, nD t.2.2)) W) :=
        ev2_ok (ev2_ok (k1 := .bo) (d1 := .lst ((m :: ms).map nD)) (k2 := .st) (d2 := .int 0) rfl rfl g1) (k2 := .bo) (d2 := nD t.1) rfl rfl
      have t2 : ev2 gGe (ev2 gIx (evB 3) (evNeg (evC (.int 1)))) (ev2 gSubI (ev1 gLen (evB 2)) (evB 5)) (alC (some t) p (some (true, .lst ((m :: ms).map nD))) (some (false, nD t.1)) (some (false, nD t.2.1)) (some (false, nD t.2.2)) W) = .ok .st (.bl (decide ((p.length : Int) - (t.2.1 : Int) ≤ (l : Int)))) (alC (some t) p (some (true, .lst ((m :: ms).map nD))) (some (false, nD t.1)) (some (false, nD t.2.1)) (some (false, nD t.2.2)) W) :=
        ev2_ok (ev2_ok (k1 := .bo) (d1 := .lst ((m :: ms).map nD)) (k2 := .st) (d2 := .int (-1)) rfl rfl g2) (ev2_ok q2 (k2 := .bo) (d2 := nD t.2.1) rfl rfl) rfl
      by_cases c1 : t.1 ≤ m
      · have d1 : decide ((m : Int) < (t.1 : Int)) = false := decide_eq_false (by omega)
        rw [d1] at t1
        by_cases c2 : t.2.1 ≤ p.length - 1 - l
        · have d2 : decide ((p.length : Int) - (t.2.1 : Int) ≤ (l : Int)) = false := decide_eq_false (by omega)
          rw [d2] at t2
          refine seq_nx (sIf_f (evOr_f t1 t2) rfl) ?_
          have ha := al_all t p W hs (m :: ms) hlt (by have := movedF_len 0 p; have h2 := h.sz; unfold moved at hms; rw [hms] at this; omega) (some (false, nD t.1)) (some (false, nD t.2.1))
          rw [decide_eq_true c1, decide_eq_true c2]
          refine sRet_st (c1 := alC (some t) p (some (false, .lst ((m :: ms).map nD))) (some (false, nD t.1)) (some (false, nD t.2.1)) (some (false, nD t.2.2)) W) (ev1_ok ha ?_)
          rw [asB_map, List.all_map]
          rfl
        · have d2 : decide ((p.length : Int) - (t.2.1 : Int) ≤ (l : Int)) = true := decide_eq_true (by omega)
          rw [d2] at t2
          rw [decide_eq_false c2, Bool.and_false, Bool.false_and]
          exact seq_ret (sIf_t (evOr_f t1 t2) rfl)
      · have d1 : decide ((m : Int) < (t.1 : Int)) = true := decide_eq_true (by omega)
        rw [d1] at t1
        rw [decide_eq_false c1, Bool.false_and, Bool.false_and]
        exact seq_ret (sIf_t (evOr_t t1) rfl)
end DL.K50
namespace DL.K50
open PySem PySem.Spec PyProof.Rows L2 DL
/-! ### triples -/
theorem is_number_nat (n : Nat) (W : Wd) : F_is_number [nD n] W = .ret false (.bl true) W := by
  rw [is_number_eq _ _ rfl]
  have : isNumD (nD n) = true := by
    unfold isNumD nD
    simp
  rw [this]
def tfB : SF := sIf (evOr (evNot (evTru (evCall 1 F_is_number (evCons (evV 2) evNil)))) (evAnd (ev2 gEq (evB 1) (evC (.int 2))) (ev2 gEq (evB 2) (evC (.int 0))))) (sRet (evM 1)) sNil
theorem tf_step (d : D) (k n : Nat) (W : Wd) (h : k = 2 → n ≠ 0) : tfB ⟨[some (false, d), some (false, nD k), some (false, nD n)], W⟩ = .nx ⟨[some (false, d), some (false, nD k), some (false, nD n)], W⟩ := by
  have e1 : evNot (evTru (evCall 1 F_is_number (evCons (evV 2) evNil))) ⟨[some (false, d), some (false, nD k), some (false, nD n)], W⟩ = .ok .st (.bl false) ⟨[some (false, d), some (false, nD k), some (false, nD n)], W⟩ :=
    evNotTru_t (evCall_c (ds := [nD n]) (evCons_ok (k := .st) rfl (by simp) rfl) rfl (is_number_nat n W))
  have e2 : ev2 gEq (evB 1) (evC (.int 2)) ⟨[some (false, d), some (false, nD k), some (false, nD n)], W⟩ = .ok .st (.bl (decide ((k : Int) = 2))) ⟨[some (false, d), some (false, nD k), some (false, nD n)], W⟩ := ev2_ok (k1 := .bo) (d1 := nD k) (k2 := .st) (d2 := .int 2) rfl rfl gEq_int
  have e3 : ev2 gEq (evB 2) (evC (.int 0)) ⟨[some (false, d), some (false, nD k), some (false, nD n)], W⟩ = .ok .st (.bl (decide ((n : Int) = 0))) ⟨[some (false, d), some (false, nD k), some (false, nD n)], W⟩ := ev2_ok (k1 := .bo) (d1 := nD n) (k2 := .st) (d2 := .int 0) rfl rfl gEq_int
  refine sIf_f (k := .st) (evOr_f e1 (r := .ok .st (.bl false) ⟨[some (false, d), some (false, nD k), some (false, nD n)], W⟩) ?_) rfl
  by_cases hk : k = 2
  · rw [decide_eq_true (by omega)] at e2
    rw [decide_eq_false (by have := h hk; omega)] at e3
    exact evAnd_t e2 e3
  · rw [decide_eq_false (by omega)] at e2
    exact evAnd_f e2
theorem triple_fault_eq (t : T3) (W : Wd) (h : 0 < t.2.2) : F_triple_fault [tD t] W = .ret false .non W := by
  have hs : F_is_sequence [tD t] W = .ret false (.bl true) W := rfl
  refine runD_of (c := ⟨[some (false, tD t), none, none], W⟩) rfl ?_
  have e1 : evNot (evTru (evCall 1 F_is_sequence (evCons (evV 0) evNil))) ⟨[some (false, tD t), none, none], W⟩ = .ok .st (.bl false) ⟨[some (false, tD t), none, none], W⟩ :=
    evNotTru_t (evCall_c (ds := [tD t]) (evCons_ok (k := .st) rfl (by simp) rfl) rfl hs)
  have e2 : ev2 gNe (ev1 gLen (evB 0)) (evC (.int 3)) ⟨[some (false, tD t), none, none], W⟩ = .ok .st (.bl false) ⟨[some (false, tD t), none, none], W⟩ := ev2_ok (k1 := .st) (d1 := .int 3) (k2 := .st) (d2 := .int 3) rfl rfl (by rw [gNe_int]; rfl)
  refine seq_nx (sIf_f (evOr_f e1 e2) rfl) ?_
  refine seq_nx (c1 := ⟨[some (false, tD t), some (false, nD 2), some (false, nD t.2.2)], W⟩) ?_ rfl
  refine sFor_ok (ds := enumD 0 [nD t.1, nD t.2.1, nD t.2.2]) (c1 := ⟨[some (false, tD t), none, none], W⟩) rfl ?_
  have s0 := tf_step (tD t) 0 t.1 W (by omega)
  have s1 := tf_step (tD t) 1 t.2.1 W (by omega)
  have s2 := tf_step (tD t) 2 t.2.2 W (by omega)
  show goFor (tg2 1 2) tfB (enumD 0 [nD t.1, nD t.2.1, nD t.2.2]) ⟨[some (false, tD t), none, none], W⟩ = _
  generalize tfB = b at s0 s1 s2 ⊢
  unfold enumD goFor
  show (match b ⟨[some (false, tD t), some (false, nD 0), some (false, nD t.1)], W⟩ with | .nx c2 => _ | .cnt c2 => _ | .brk c2 => _ | .ret fr d W => _ | .exc x W => _ | .bad => _) = _
  rw [s0]
  dsimp only
  unfold enumD goFor
  show (match b ⟨[some (false, tD t), some (false, nD 1), some (false, nD t.2.1)], W⟩ with | .nx c2 => _ | .cnt c2 => _ | .brk c2 => _ | .ret fr d W => _ | .exc x W => _ | .bad => _) = _
  rw [s1]
  dsimp only
  unfold enumD goFor
  show (match b ⟨[some (false, tD t), some (false, nD 2), some (false, nD t.2.2)], W⟩ with | .nx c2 => _ | .cnt c2 => _ | .brk c2 => _ | .ret fr d W => _ | .exc x W => _ | .bad => _) = _
  rw [s2]
  rfl
theorem checked_triple_eq (t : T3) (W : Wd) (h : 0 < t.2.2) : F_checked_triple [tD t] W = .ret false (tD t) W := checked_gen F_triple_fault [nD t.1, nD t.2.1, nD t.2.2] W (triple_fault_eq t W h)
/-! ### findings -/
abbrev Fg := List Nat × Bool
def fgD (x : Fg) : D := .tup [pD x.1, .bl x.2]
structure FOk (fs : List Fg) : Prop where
  pm : ∀ x ∈ fs, Pm x.1
  sz : fs.length ≤ 1000
theorem fg_at0 (x : Fg) : gIx (fgD x) (.int 0) = some (.st, pD x.1) := rfl
theorem fg_at1 (x : Fg) : gIx (fgD x) (.int 1) = some (.st, .bl x.2) := rfl
theorem is_finding_eq (x : Fg) (W : Wd) (h : Pm x.1) : F_is_finding [fgD x] W = .ret false (.bl true) W := by
  have hs : F_is_sequence [fgD x] W = .ret false (.bl true) W := rfl
  have hs2 : F_is_sequence [pD x.1] W = .ret false (.bl true) W := rfl
  have hf := fault_eq x.1 W h
  refine runD_of (c := ⟨[some (false, fgD x)], W⟩) rfl ?_
  have q0 : ev2 gIx (evB 0) (evC (.int 0)) ⟨[some (false, fgD x)], W⟩ = .ok .st (pD x.1) ⟨[some (false, fgD x)], W⟩ := ev2_ok (k1 := .bo) (d1 := fgD x) (k2 := .st) (d2 := .int 0) rfl rfl (fg_at0 x)
  have q1 : ev2 gIx (evB 0) (evC (.int 1)) ⟨[some (false, fgD x)], W⟩ = .ok .st (.bl x.2) ⟨[some (false, fgD x)], W⟩ := ev2_ok (k1 := .bo) (d1 := fgD x) (k2 := .st) (d2 := .int 1) rfl rfl (fg_at1 x)
  have e1 : evNot (evTru (evCall 1 F_is_sequence (evCons (evV 0) evNil))) ⟨[some (false, fgD x)], W⟩ = .ok .st (.bl false) ⟨[some (false, fgD x)], W⟩ :=
    evNotTru_t (evCall_c (ds := [fgD x]) (evCons_ok (k := .st) rfl (by simp) rfl) rfl hs)
  have e2 : ev2 gNe (ev1 gLen (evB 0)) (evC (.int 2)) ⟨[some (false, fgD x)], W⟩ = .ok .st (.bl false) ⟨[some (false, fgD x)], W⟩ := ev2_ok (k1 := .st) (d1 := .int 2) (k2 := .st) (d2 := .int 2) rfl rfl (by rw [gNe_int]; rfl)
  have e3 : evNot (evTru (evCall 1 F_is_sequence (evCons (ev2 gIx (evB 0) (evC (.int 0))) evNil))) ⟨[some (false, fgD x)], W⟩ = .ok .st (.bl false) ⟨[some (false, fgD x)], W⟩ :=
    evNotTru_t (evCall_c (ds := [pD x.1]) (evCons_ok q0 (by simp) rfl) rfl hs2)
  refine seq_nx (sIf_f (evOr_f e1 (evOr_f e2 e3)) rfl) ?_
  refine sRet_st (c1 := ⟨[some (false, fgD x)], W⟩) (evAnd_t (k := .st) (ev1_ok q1 rfl) ?_)
  exact ev2_ok (evCall_ok (ds := [pD x.1]) (c1 := ⟨[some (false, fgD x)], W⟩) (evCons_ok q0 (by simp) rfl) rfl hf) (k2 := .st) (d2 := .non) rfl rfl
end DL.K50
namespace DL.K50
open PySem PySem.Spec PyProof.Rows L2 DL
/-- a list or a tuple -/
def sqD (b : Bool) (ds : List D) : D := if b then .lst ds else .tup ds
def cfB : SF := sIf (evNot (evTru (evCall 1 F_is_finding (evCons (evV 2) evNil)))) sBad sNil
theorem cf_step (d : D) (k : Nat) (x : Fg) (W : Wd) (h : Pm x.1) : cfB ⟨[some (false, d), some (false, nD k), some (false, fgD x)], W⟩ = .nx ⟨[some (false, d), some (false, nD k), some (false, fgD x)], W⟩ :=
  by
  have hf := is_finding_eq x W h
  have e0 : evCall 1 F_is_finding (evCons (evV 2) evNil) ⟨[some (false, d), some (false, nD k), some (false, fgD x)], W⟩ = .ok .st (.bl true) ⟨[some (false, d), some (false, nD k), some (false, fgD x)], W⟩ :=
    evCall_c (ds := [fgD x]) (evCons_ok (k := .st) rfl (by simp) rfl) rfl hf
  exact sIf_f (evNotTru_t e0) rfl
theorem for_step {tgt : D → Cfg → Option Cfg} {body : SF} {d : D} {ds : List D} {c c1 c2 : Cfg} {r : SR} (h1 : tgt d c = some c1) (h2 : body c1 = .nx c2) (h3 : goFor tgt body ds c2 = r) : goFor tgt body (d :: ds) c = r := by
  unfold goFor
  rw [h1]
  dsimp only
  rw [h2]
  exact h3
theorem cf_go (d : D) (W : Wd) (fs : List Fg) : ∀ (k : Nat) (a b : Option (Bool × D)), shOf b = b → (∀ x ∈ fs, Pm x.1) → ∃ a' b', shOf b' = b' ∧ goFor (tg2 1 2) cfB (enumD k (fs.map fgD)) ⟨[some (false, d), a, b], W⟩ = .nx ⟨[some (false, d), a', b'], W⟩ := by
  induction fs with
  | nil => exact fun k a b hb _ => ⟨a, b, hb, rfl⟩
  | cons x fs ih =>
    intro k a b hb h
    obtain ⟨a', b', hb', ih⟩ := ih (k + 1) (some (false, nD k)) (some (false, fgD x)) rfl (fun y hy => h y (List.mem_cons_of_mem _ hy))
    exact ⟨a', b', hb', for_step (c1 := ⟨[some (false, d), some (false, nD k), some (false, fgD x)], W⟩) rfl (cf_step d k x W (h x List.mem_cons_self)) ih⟩
def cfE : EF := evTup (evCons (evCall 1 F_checked_reordering (evCons (ev2 gIx (evB 2) (evC (.int 0))) evNil)) (evCons (ev2 gIx (evB 2) (evC (.int 1))) evNil))
theorem cfE_eq (d0 : D) (a : Option (Bool × D)) (x : Fg) (W : Wd) (h : Pm x.1) : cfE ⟨[some (false, d0), a, some (false, fgD x)], W⟩ = .ok .st (fgD x) ⟨[some (false, d0), a, some (false, fgD x)], W⟩ := by
  have hc := checked_reordering_eq x.1 W h
  have q0 : ev2 gIx (evB 2) (evC (.int 0)) ⟨[some (false, d0), a, some (false, fgD x)], W⟩ = .ok .st (pD x.1) ⟨[some (false, d0), a, some (false, fgD x)], W⟩ := ev2_ok (k1 := .bo) (d1 := fgD x) (k2 := .st) (d2 := .int 0) rfl rfl (fg_at0 x)
  have q1 : ev2 gIx (evB 2) (evC (.int 1)) ⟨[some (false, d0), a, some (false, fgD x)], W⟩ = .ok .st (.bl x.2) ⟨[some (false, d0), a, some (false, fgD x)], W⟩ := ev2_ok (k1 := .bo) (d1 := fgD x) (k2 := .st) (d2 := .int 1) rfl rfl (fg_at1 x)
  have q2 : evCall 1 F_checked_reordering (evCons (ev2 gIx (evB 2) (evC (.int 0))) evNil) ⟨[some (false, d0), a, some (false, fgD x)], W⟩ = .ok .st (pD x.1) ⟨[some (false, d0), a, some (false, fgD x)], W⟩ := evCall_c (ds := [pD x.1]) (evCons_ok q0 (by simp) rfl) rfl hc
  exact evTup_ok (ds := [pD x.1, .bl x.2]) (evCons_ok q2 (by simp) (evCons_ok q1 (by simp) rfl)) (by simp)
theorem cf_lc (b : Bool) (fs : List Fg) (a b2 : Option (Bool × D)) (W : Wd) (h : FOk fs) (hb : shOf b2 = b2) : evLc (evIt (evV 0)) (tgN 2) [2] (evC (.bl true)) cfE ⟨[some (false, sqD b (fs.map fgD)), a, b2], W⟩ = .ok .fr (.lst (fs.map fgD)) ⟨[some (false, sqD b (fs.map fgD)), a, b2], W⟩ := by
  have e := evLc_pure (it := evIt (evV 0)) (tgt := tgN 2) (vs := [2]) (ft := evC (.bl true)) (fe := cfE) (c0 := ⟨[some (false, sqD b (fs.map fgD)), a, b2], W⟩) (c := ⟨[some (false, sqD b (fs.map fgD)), a, b2], W⟩) (ds := fs.map fgD) (fun _ => true) (fun d => d) (by cases b <;> rfl) (by rw [List.length_map]; exact big_of (by have := h.sz; omega)) (fun d hd => by
    obtain ⟨x, hx, rfl⟩ := List.mem_map.mp hd
    refine ⟨⟨[some (false, sqD b (fs.map fgD)), a, some (false, fgD x)], W⟩, rfl, ⟨.st, rfl⟩, fun _ => ⟨.st, by simp, cfE_eq _ a x W (h.pm x hx)⟩, ?_⟩
    show (⟨[some (false, sqD b (fs.map fgD)), a, shOf b2], W⟩ : Cfg) = _
    rw [hb])
  rw [e, List.filter_eq_self.mpr (fun _ _ => rfl), List.map_id']
theorem checked_findings_eq (b : Bool) (fs : List Fg) (W : Wd) (h : FOk fs) : F_checked_findings [sqD b (fs.map fgD)] W = .ret false (.tup (fs.map fgD)) W := by
  have hs : F_is_sequence [sqD b (fs.map fgD)] W = .ret false (.bl true) W := by cases b <;> rfl
  refine runD_of (c := ⟨[some (false, sqD b (fs.map fgD)), none, none], W⟩) rfl ?_
  have e0 : evCall 1 F_is_sequence (evCons (evV 0) evNil) ⟨[some (false, sqD b (fs.map fgD)), none, none], W⟩ = .ok .st (.bl true) ⟨[some (false, sqD b (fs.map fgD)), none, none], W⟩ :=
    evCall_c (ds := [sqD b (fs.map fgD)]) (evCons_ok (k := .st) rfl (by simp) rfl) rfl hs
  refine seq_nx (sIf_f (evNotTru_t e0) rfl) ?_
  obtain ⟨a', b', hb', eg⟩ := cf_go (sqD b (fs.map fgD)) W fs 0 none none rfl h.pm
  refine seq_nx (c1 := ⟨[some (false, sqD b (fs.map fgD)), a', b'], W⟩) (sFor_ok (ds := enumD 0 (fs.map fgD)) (c1 := ⟨[some (false, sqD b (fs.map fgD)), none, none], W⟩) (by cases b <;> rfl) eg) ?_
  exact sRet_st (c1 := ⟨[some (false, sqD b (fs.map fgD)), a', b'], W⟩) (ev1_ok (cf_lc b fs a' b' W h hb') rfl)
end DL.K50
namespace DL.K50
open PySem PySem.Spec PyProof.Rows L2 DL
@[simp] theorem eqD_bl {a b : Bool} : eqD (.bl a) (.bl b) = some (decide (a = b)) := by
  cases a <;> cases b <;> rfl
theorem gEq_bl {a b : Bool} : gEq (.bl a) (.bl b) = some (.st, .bl (decide (a = b))) := by unfold gEq; rw [eqD_bl]; rfl
/-! ### who agrees -/
def agB (o : Option T3) (x : Fg) : Bool := decide (allowsO o (frP x.1) = x.2)
def agE : EF := ev2 gEq (evCall 2 F_is_allowed (evCons (evV 0) (evCons (evV 2) evNil))) (evB 3)
theorem agE_eq (o : Option T3) (d1 : D) (x : Fg) (W : Wd) (h : Pm x.1) (ho : ∀ t, o = some t → 0 < t.2.2) : agE ⟨[some (false, frD o), some (false, d1), some (false, pD x.1), some (false, .bl x.2)], W⟩ = .ok .st (.bl (agB o x)) ⟨[some (false, frD o), some (false, d1), some (false, pD x.1), some (false, .bl x.2)], W⟩ := by
  have hi := is_allowed_eq o x.1 W h ho
  have q : evCall 2 F_is_allowed (evCons (evV 0) (evCons (evV 2) evNil)) ⟨[some (false, frD o), some (false, d1), some (false, pD x.1), some (false, .bl x.2)], W⟩ = .ok .st (.bl (allowsO o (frP x.1))) ⟨[some (false, frD o), some (false, d1), some (false, pD x.1), some (false, .bl x.2)], W⟩ :=
    evCall_c (ds := [frD o, pD x.1]) (evCons_ok (k := .st) rfl (by simp) (evCons_ok (k := .st) rfl (by simp) rfl)) rfl hi
  exact ev2_ok q (k2 := .bo) (d2 := .bl x.2) rfl gEq_bl
theorem lc_map {α : Type} {tgt : D → Cfg → Option Cfg} {vs : List Nat} {ft fe : EF} {c : Cfg} (g : α → D) (t : α → Bool) (v : α → D) (gs : List α) : ∀ (acc : List D), acc.length + gs.length ≤ big →
    (∀ x ∈ gs, ∃ c1, tgt (g x) (c.wipe vs) = some c1 ∧ (∃ k, ft c1 = .ok k (.bl (t x)) c1) ∧ (t x = true → ∃ k, k ≠ .bo ∧ fe c1 = .ok k (v x) c1) ∧ Cfg.mrg vs c c1 = c) →
    goLc tgt vs ft fe (gs.map g) acc c = .ok (acc ++ (gs.filter t).map v) c := by
  induction gs with
  | nil => intro acc _ _; simp [goLc]
  | cons x gs ih =>
    intro acc hl h
    obtain ⟨c1, e1, ⟨k, e2⟩, e3, e4⟩ := h x List.mem_cons_self
    have hr := fun d hd => h d (List.mem_cons_of_mem _ hd)
    have hb : acc.length < big := by
      simp at hl
      omega
    rw [List.map_cons]
    unfold goLc
    rw [e1]
    dsimp only
    rw [e2]
    cases ht : t x with
    | false =>
      dsimp only
      rw [e4, ih acc (by simp at hl ⊢; omega) hr, List.filter_cons_of_neg (by simp [ht])]
    | true =>
      obtain ⟨k', hk, e5⟩ := e3 ht
      dsimp only
      rw [e5]
      cases k' with
      | bo => exact absurd rfl hk
      | st =>
        dsimp only
        rw [if_pos hb, e4, ih _ (by simp at hl ⊢; omega) hr, List.filter_cons_of_pos ht]
        simp
      | fr =>
        dsimp only
        rw [if_pos hb, e4, ih _ (by simp at hl ⊢; omega) hr, List.filter_cons_of_pos ht]
        simp
theorem evLc_map {α : Type} {it : AF} {tgt : D → Cfg → Option Cfg} {vs : List Nat} {ft fe : EF} {c0 c : Cfg} (g : α → D) (t : α → Bool) (v : α → D) (gs : List α) (hi : it c0 = .ok (gs.map g) c) (hl : gs.length ≤ 1000)
    (h : ∀ x ∈ gs, ∃ c1, tgt (g x) (c.wipe vs) = some c1 ∧ (∃ k, ft c1 = .ok k (.bl (t x)) c1) ∧ (t x = true → ∃ k, k ≠ .bo ∧ fe c1 = .ok k (v x) c1) ∧ Cfg.mrg vs c c1 = c) :
    evLc it tgt vs ft fe c0 = .ok .fr (.lst ((gs.filter t).map v)) c := by
  have e := lc_map (tgt := tgt) (vs := vs) (ft := ft) (fe := fe) (c := c) g t v gs [] (big_of (by simpa using Nat.le_trans hl (by omega))) h
  unfold evLc
  rw [hi]
  dsimp only
  rw [e]
  rfl
theorem ag_lc (o : Option T3) (b : Bool) (fs : List Fg) (W : Wd) (h : FOk fs) (ho : ∀ t, o = some t → 0 < t.2.2) : evLc (evIt (evV 1)) (tg2 2 3) [2, 3] (evC (.bl true)) agE ⟨[some (false, frD o), some (false, sqD b (fs.map fgD)), none, none], W⟩ = .ok .fr (.lst ((fs.map (agB o)).map D.bl)) ⟨[some (false, frD o), some (false, sqD b (fs.map fgD)), none, none], W⟩ := by
  have e := evLc_map (it := evIt (evV 1)) (tgt := tg2 2 3) (vs := [2, 3]) (ft := evC (.bl true)) (fe := agE) (c0 := ⟨[some (false, frD o), some (false, sqD b (fs.map fgD)), none, none], W⟩) (c := ⟨[some (false, frD o), some (false, sqD b (fs.map fgD)), none, none], W⟩) fgD (fun _ => true) (fun x => .bl (agB o x)) fs (by cases b <;> rfl) h.sz (fun x hx =>
    ⟨⟨[some (false, frD o), some (false, sqD b (fs.map fgD)), some (false, pD x.1), some (false, .bl x.2)], W⟩, rfl, ⟨.st, rfl⟩, fun _ => ⟨.st, by simp, agE_eq o _ x W (h.pm x hx) ho⟩, rfl⟩)
  rw [e, List.filter_eq_self.mpr (fun _ _ => rfl), List.map_map]
  rfl
theorem agrees_with_eq (o : Option T3) (b : Bool) (fs : List Fg) (W : Wd) (h : FOk fs) (ho : ∀ t, o = some t → 0 < t.2.2) : F_agrees_with [frD o, sqD b (fs.map fgD)] W = .ret false (.bl (fs.all (agB o))) W := by
  refine runD_of (c := ⟨[some (false, frD o), some (false, sqD b (fs.map fgD)), none, none], W⟩) rfl ?_
  have e := ag_lc o b fs W h ho
  refine sRet_st (c1 := ⟨[some (false, frD o), some (false, sqD b (fs.map fgD)), none, none], W⟩) (ev1_ok e ?_)
  rw [asB_map, List.all_map]
  rfl
theorem agrees_eq (o : Option T3) (fs : List Fg) (W : Wd) (h : FOk fs) (ho : ∀ t, o = some t → 0 < t.2.2) : F_agrees [frD o, .tup (fs.map fgD)] W = .ret false (.bl (fs.all (agB o))) W := by
  have ha := agrees_with_eq o false fs W h ho
  have hc := checked_findings_eq false fs W h
  refine runD_of (c := ⟨[some (false, frD o), some (false, .tup (fs.map fgD)), none], W⟩) rfl ?_
  refine seq_nx (c1 := ⟨[some (false, frD o), some (false, .tup (fs.map fgD)), some (false, frD o)], W⟩) ?_ ?_
  · cases o with
    | none => rfl
    | some t =>
      have ht := checked_triple_eq t W (ho t rfl)
      have q : evCall 1 F_checked_triple (evCons (evV 0) evNil) ⟨[some (false, frD (some t)), some (false, .tup (fs.map fgD)), none], W⟩ = .ok .st (tD t) ⟨[some (false, frD (some t)), some (false, .tup (fs.map fgD)), none], W⟩ := evCall_c (ds := [tD t]) (evCons_ok (k := .st) rfl (by simp) rfl) rfl ht
      have q2 : evIf (ev2 gIsN (evB 0) (evC .non)) (evC .non) (evCall 1 F_checked_triple (evCons (evV 0) evNil)) ⟨[some (false, frD (some t)), some (false, .tup (fs.map fgD)), none], W⟩ = .ok .st (tD t) ⟨[some (false, frD (some t)), some (false, .tup (fs.map fgD)), none], W⟩ := q
      exact sSet_ok q2 rfl
  · have q : evCall 1 F_checked_findings (evCons (evV 1) evNil) ⟨[some (false, frD o), some (false, .tup (fs.map fgD)), some (false, frD o)], W⟩ = .ok .st (.tup (fs.map fgD)) ⟨[some (false, frD o), some (false, .tup (fs.map fgD)), some (false, frD o)], W⟩ := evCall_c (ds := [.tup (fs.map fgD)]) (evCons_ok (k := .st) rfl (by simp) rfl) rfl hc
    exact sRet_st (c1 := ⟨[some (false, frD o), some (false, .tup (fs.map fgD)), some (false, frD o)], W⟩) (evCall_c (ds := [frD o, .tup (fs.map fgD)]) (evCons_ok (k := .st) rfl (by simp) (evCons_ok q (by simp) rfl)) rfl ha)
end DL.K50
namespace DL.K50
open PySem PySem.Spec PyProof.Rows L2 DL
/-! ### the widest triple -/
def meet (u t : T3) : T3 := (min u.1 t.1, min u.2.1 t.2.1, Nat.gcd u.2.2 t.2.2)
def widen (o : Option T3) (x : Fg) : Option T3 := match x.2, frP x.1 with
  | true, some t => some (meet (o.getD t) t)
  | _, _ => o
def widB : SF := (sSeq (sSet 4 (evCall 1 F_frame (evCons (evV 2) evNil))) (sIf (evAnd (evTru (evB 3)) (ev2 gNotN (evB 4) (evC .non))) (sSeq (sIf (ev2 gIsN (evB 1) (evC .non)) (sSet 1 (evV 4)) sNil) (sSet 1 (evTup (evCons (ev2 gMin2 (ev2 gIx (evB 1) (evC (.int 0))) (ev2 gIx (evB 4) (evC (.int 0)))) (evCons (ev2 gMin2 (ev2 gIx (evB 1) (evC (.int 1))) (ev2 gIx (evB 4) (evC (.int 1)))) (evCons (evCall 2 F_divisor (evCons (ev2 gIx (evB 1) (evC (.int 2))) (evCons (ev2 gIx (evB 4) (evC (.int 2))) evNil))) evNil)))))) sNil))
theorem gMin2_nat (a b : Nat) : gMin2 (nD a) (nD b) = some (.st, nD (min a b)) := by
  show some (Kd.st, D.int (if (b : Int) < (a : Int) then (b : Int) else (a : Int))) = _
  have : (if (b : Int) < (a : Int) then (b : Int) else (a : Int)) = ((min a b : Nat) : Int) := by
    split <;> omega
  rw [this]
  rfl
theorem tD_0 (t : T3) : gIx (tD t) (.int 0) = some (.st, nD t.1) := rfl
theorem tD_1 (t : T3) : gIx (tD t) (.int 1) = some (.st, nD t.2.1) := rfl
theorem tD_2 (t : T3) : gIx (tD t) (.int 2) = some (.st, nD t.2.2) := rfl
def widC (d0 : D) (o : D) (x : Fg) (y : Option (Bool × D)) (W : Wd) : Cfg := ⟨[some (false, d0), some (false, o), some (false, pD x.1), some (false, .bl x.2), y], W⟩
theorem wid_meet (d0 : D) (u t : T3) (x : Fg) (W : Wd) : sSet 1 (evTup (evCons (ev2 gMin2 (ev2 gIx (evB 1) (evC (.int 0))) (ev2 gIx (evB 4) (evC (.int 0)))) (evCons (ev2 gMin2 (ev2 gIx (evB 1) (evC (.int 1))) (ev2 gIx (evB 4) (evC (.int 1)))) (evCons (evCall 2 F_divisor (evCons (ev2 gIx (evB 1) (evC (.int 2))) (evCons (ev2 gIx (evB 4) (evC (.int 2))) evNil))) evNil)))) (widC d0 (tD u) x (some (false, tD t)) W) = .nx (widC d0 (tD (meet u t)) x (some (false, tD t)) W) := by
  have hd := divisor_eq u.2.2 t.2.2 W
  have a0 : ev2 gIx (evB 1) (evC (.int 0)) (widC d0 (tD u) x (some (false, tD t)) W) = .ok .st (nD u.1) (widC d0 (tD u) x (some (false, tD t)) W) := ev2_ok (k1 := .bo) (d1 := tD u) (k2 := .st) (d2 := .int 0) rfl rfl (tD_0 u)
  have a1 : ev2 gIx (evB 1) (evC (.int 1)) (widC d0 (tD u) x (some (false, tD t)) W) = .ok .st (nD u.2.1) (widC d0 (tD u) x (some (false, tD t)) W) := ev2_ok (k1 := .bo) (d1 := tD u) (k2 := .st) (d2 := .int 1) rfl rfl (tD_1 u)
  have a2 : ev2 gIx (evB 1) (evC (.int 2)) (widC d0 (tD u) x (some (false, tD t)) W) = .ok .st (nD u.2.2) (widC d0 (tD u) x (some (false, tD t)) W) := ev2_ok (k1 := .bo) (d1 := tD u) (k2 := .st) (d2 := .int 2) rfl rfl (tD_2 u)
  have b0 : ev2 gIx (evB 4) (evC (.int 0)) (widC d0 (tD u) x (some (false, tD t)) W) = .ok .st (nD t.1) (widC d0 (tD u) x (some (false, tD t)) W) := ev2_ok (k1 := .bo) (d1 := tD t) (k2 := .st) (d2 := .int 0) rfl rfl (tD_0 t)
  have b1 : ev2 gIx (evB 4) (evC (.int 1)) (widC d0 (tD u) x (some (false, tD t)) W) = .ok .st (nD t.2.1) (widC d0 (tD u) x (some (false, tD t)) W) := ev2_ok (k1 := .bo) (d1 := tD t) (k2 := .st) (d2 := .int 1) rfl rfl (tD_1 t)
  have b2 : ev2 gIx (evB 4) (evC (.int 2)) (widC d0 (tD u) x (some (false, tD t)) W) = .ok .st (nD t.2.2) (widC d0 (tD u) x (some (false, tD t)) W) := ev2_ok (k1 := .bo) (d1 := tD t) (k2 := .st) (d2 := .int 2) rfl rfl (tD_2 t)
  have q : evCall 2 F_divisor (evCons (ev2 gIx (evB 1) (evC (.int 2))) (evCons (ev2 gIx (evB 4) (evC (.int 2))) evNil)) (widC d0 (tD u) x (some (false, tD t)) W) = .ok .st (nD (Nat.gcd u.2.2 t.2.2)) (widC d0 (tD u) x (some (false, tD t)) W) :=
    evCall_c (ds := [nD u.2.2, nD t.2.2]) (evCons_ok a2 (by simp) (evCons_ok b2 (by simp) rfl)) rfl hd
  exact sSet_ok (evTup_ok (ds := [nD (min u.1 t.1), nD (min u.2.1 t.2.1), nD (Nat.gcd u.2.2 t.2.2)]) (evCons_ok (ev2_ok a0 b0 (gMin2_nat _ _)) (by simp) (evCons_ok (ev2_ok a1 b1 (gMin2_nat _ _)) (by simp) (evCons_ok q (by simp) rfl))) (by simp)) rfl
theorem wid_step (d0 : D) (o : Option T3) (x : Fg) (y : Option (Bool × D)) (W : Wd) (h : Pm x.1) : widB (widC d0 (frD o) x y W) = .nx (widC d0 (frD (widen o x)) x (some (false, frD (frP x.1))) W) := by
  have hf := frame_eq x.1 W h
  have q : evCall 1 F_frame (evCons (evV 2) evNil) (widC d0 (frD o) x y W) = .ok .st (frD (frP x.1)) (widC d0 (frD o) x y W) := evCall_c (ds := [pD x.1]) (evCons_ok (k := .st) rfl (by simp) rfl) rfl hf
  refine seq_nx (c1 := widC d0 (frD o) x (some (false, frD (frP x.1))) W) (sSet_ok q rfl) ?_
  have t1 : evTru (evB 3) (widC d0 (frD o) x (some (false, frD (frP x.1))) W) = .ok .st (.bl x.2) (widC d0 (frD o) x (some (false, frD (frP x.1))) W) := evTru_t (k := .bo) rfl
  have t2 : ev2 gNotN (evB 4) (evC .non) (widC d0 (frD o) x (some (false, frD (frP x.1))) W) = .ok .st (.bl (frP x.1).isSome) (widC d0 (frD o) x (some (false, frD (frP x.1))) W) := by
    refine ev2_ok (k1 := .bo) (d1 := frD (frP x.1)) (k2 := .st) (d2 := .non) rfl rfl ?_
    cases frP x.1 <;> rfl
  cases hb : x.2 with
  | false =>
    rw [hb] at t1
    have e : widen o x = o := by unfold widen; rw [hb]
    rw [e]
    exact sIf_f (evAnd_f t1) rfl
  | true =>
    rw [hb] at t1
    cases hp : frP x.1 with
    | none =>
      rw [hp] at t1 t2
      have e : widen o x = o := by unfold widen; rw [hb, hp]
      rw [e]
      exact sIf_f (evAnd_t t1 t2) rfl
    | some t =>
      rw [hp] at t1 t2
      have e : widen o x = some (meet (o.getD t) t) := by unfold widen; rw [hb, hp]
      rw [e]
      refine sIf_t (evAnd_t t1 t2) ?_
      cases o with
      | none => exact seq_nx (c1 := widC d0 (tD t) x (some (false, tD t)) W) rfl (wid_meet d0 t t x W)
      | some u => exact seq_nx (c1 := widC d0 (tD u) x (some (false, tD t)) W) rfl (wid_meet d0 u t x W)
def widest (o : Option T3) : List Fg → Option T3
  | [] => o
  | x :: fs => widest (widen o x) fs
theorem wid_go (d0 : D) (W : Wd) (fs : List Fg) : ∀ (o : Option T3) (a b y : Option (Bool × D)), (∀ x ∈ fs, Pm x.1) → ∃ a' b' y', goFor (tg2 2 3) widB (fs.map fgD) ⟨[some (false, d0), some (false, frD o), a, b, y], W⟩ = .nx ⟨[some (false, d0), some (false, frD (widest o fs)), a', b', y'], W⟩ := by
  induction fs with
  | nil => exact fun o a b y _ => ⟨a, b, y, rfl⟩
  | cons x fs ih =>
    intro o a b y h
    obtain ⟨a', b', y', ih⟩ := ih (widen o x) (some (false, pD x.1)) (some (false, .bl x.2)) (some (false, frD (frP x.1))) (fun z hz => h z (List.mem_cons_of_mem _ hz))
    exact ⟨a', b', y', for_step (c1 := widC d0 (frD o) x y W) rfl (wid_step d0 o x y W (h x List.mem_cons_self)) ih⟩
theorem widest_of_eq (b : Bool) (fs : List Fg) (W : Wd) (h : FOk fs) : F_widest_of [sqD b (fs.map fgD)] W = .ret false (frD (widest none fs)) W := by
  obtain ⟨a', b', y', eg⟩ := wid_go (sqD b (fs.map fgD)) W fs none none none none h.pm
  refine runD_of (c := ⟨[some (false, sqD b (fs.map fgD)), none, none, none, none], W⟩) rfl ?_
  refine seq_nx (c1 := ⟨[some (false, sqD b (fs.map fgD)), some (false, frD none), none, none, none], W⟩) rfl ?_
  refine seq_nx (c1 := ⟨[some (false, sqD b (fs.map fgD)), some (false, frD (widest none fs)), a', b', y'], W⟩) (sFor_ok (ds := fs.map fgD) (c1 := ⟨[some (false, sqD b (fs.map fgD)), some (false, frD none), none, none, none], W⟩) (by cases b <;> rfl) eg) ?_
  exact sRet_st (c1 := ⟨[some (false, sqD b (fs.map fgD)), some (false, frD (widest none fs)), a', b', y'], W⟩) rfl
/-! the steps are never 0 -/
theorem moved_dist {p : List Nat} (hn : ∀ (k : Nat) (xs : List Nat), True) : ∀ (i : Nat), i ∈ moved p → 0 < dist p i := by
  have run : ∀ (xs : List Nat) (k : Nat) (i : Nat), i ∈ movedF k xs → (xs.getD (i - k) 0 : Nat) ≠ i := by
    intro xs
    induction xs with
    | nil => intro k i h; cases h
    | cons x xs ih =>
      intro k i h
      unfold movedF at h
      have tail : i ∈ movedF (k + 1) xs → (x :: xs).getD (i - k) 0 ≠ i := fun h => by
        have hb := movedF_bd h
        have := ih (k + 1) i h
        rw [show i - k = (i - (k + 1)) + 1 by omega]
        exact this
      split at h
      · exact tail h
      · rename_i hx
        rcases List.mem_cons.mp h with h | h
        · subst h
          rw [Nat.sub_self]
          exact hx
        · exact tail h
  intro i hi
  have := run p 0 i hi
  rw [Nat.sub_zero] at this
  unfold dist
  omega
theorem frP_pos {p : List Nat} {t : T3} (h : frP p = some t) : 0 < t.2.2 := by
  unfold frP at h
  split at h
  · cases h
  · rename_i m ms hm
    cases h
    show 0 < gapG p (m :: ms) 0
    have hd : gapG p (m :: ms) 0 ∣ dist p m := (((gapG_dvd p (gapG p (m :: ms) 0) (m :: ms) 0).mp (Nat.dvd_refl _)).2 m List.mem_cons_self)
    have hp := moved_dist (p := p) (fun _ _ => trivial) m (by rw [hm]; exact List.mem_cons_self)
    exact Nat.pos_of_dvd_of_pos hd hp
theorem widen_pos {o : Option T3} {x : Fg} (ho : ∀ t, o = some t → 0 < t.2.2) : ∀ t, widen o x = some t → 0 < t.2.2 := by
  intro t h
  unfold widen at h
  split at h
  · rename_i u _ hu
    cases h
    show 0 < Nat.gcd _ _
    exact Nat.gcd_pos_of_pos_right _ (frP_pos hu)
  · exact ho t h
theorem widest_pos : ∀ (fs : List Fg) {o : Option T3}, (∀ t, o = some t → 0 < t.2.2) → ∀ t, widest o fs = some t → 0 < t.2.2
  | [], o, ho => ho
  | x :: fs, o, ho => widest_pos fs (widen_pos ho)
/-- what is_possible tells -/
def possF (fs : List Fg) : Bool := fs.all (agB (widest none fs))
theorem is_possible_eq (b : Bool) (fs : List Fg) (W : Wd) (h : FOk fs) : F_is_possible [sqD b (fs.map fgD)] W = .ret false (.bl (possF fs)) W := by
  have hw := widest_of_eq b fs W h
  have ha := agrees_with_eq (widest none fs) b fs W h (widest_pos fs (fun t z => by cases z))
  have q : evCall 1 F_widest_of (evCons (evV 0) evNil) ⟨[some (false, sqD b (fs.map fgD))], W⟩ = .ok .st (frD (widest none fs)) ⟨[some (false, sqD b (fs.map fgD))], W⟩ := evCall_c (ds := [sqD b (fs.map fgD)]) (evCons_ok (k := .st) rfl (by simp) rfl) rfl hw
  refine runD_of (c := ⟨[some (false, sqD b (fs.map fgD))], W⟩) rfl ?_
  exact sRet_st (c1 := ⟨[some (false, sqD b (fs.map fgD))], W⟩) (evCall_c (ds := [frD (widest none fs), sqD b (fs.map fgD)]) (evCons_ok q (by simp) (evCons_ok (k := .st) rfl (by simp) rfl)) rfl ha)
theorem widest_eq (fs : List Fg) (W : Wd) (h : FOk fs) : F_widest [.tup (fs.map fgD)] W = .ret false (frD (widest none fs)) W := by
  have hw := widest_of_eq false fs W h
  have hc := checked_findings_eq false fs W h
  have q : evCall 1 F_checked_findings (evCons (evV 0) evNil) ⟨[some (false, .tup (fs.map fgD))], W⟩ = .ok .st (.tup (fs.map fgD)) ⟨[some (false, .tup (fs.map fgD))], W⟩ := evCall_c (ds := [.tup (fs.map fgD)]) (evCons_ok (k := .st) rfl (by simp) rfl) rfl hc
  refine runD_of (c := ⟨[some (false, .tup (fs.map fgD))], W⟩) rfl ?_
  exact sRet_st (c1 := ⟨[some (false, .tup (fs.map fgD))], W⟩) (evCall_c (ds := [.tup (fs.map fgD)]) (evCons_ok q (by simp) rfl) rfl hw)
end DL.K50
namespace DL.K50
open PySem PySem.Spec PyProof.Rows L2 DL
/-! ### what is possible -/
def leT (u v : T3) : Prop := u.1 ≤ v.1 ∧ u.2.1 ≤ v.2.1 ∧ u.2.2 ∣ v.2.2
theorem leT.trans {a b c : T3} (h : leT a b) (g : leT b c) : leT a c := ⟨Nat.le_trans h.1 g.1, Nat.le_trans h.2.1 g.2.1, Nat.dvd_trans h.2.2 g.2.2⟩
theorem leT.refl (a : T3) : leT a a := ⟨Nat.le_refl _, Nat.le_refl _, Nat.dvd_refl _⟩
theorem meet_l (u t : T3) : leT (meet u t) u := ⟨Nat.min_le_left _ _, Nat.min_le_left _ _, Nat.gcd_dvd_left _ _⟩
theorem meet_r (u t : T3) : leT (meet u t) t := ⟨Nat.min_le_right _ _, Nat.min_le_right _ _, Nat.gcd_dvd_right _ _⟩
theorem meet_ge {s u t : T3} (h : leT s u) (g : leT s t) : leT s (meet u t) := ⟨Nat.le_min.mpr ⟨h.1, g.1⟩, Nat.le_min.mpr ⟨h.2.1, g.2.1⟩, Nat.dvd_gcd h.2.2 g.2.2⟩
theorem allows_leT {u t : T3} : allowsO (some u) (some t) = true ↔ leT u t := by
  unfold allowsO leT
  simp only [Bool.and_eq_true, decide_eq_true_eq]
  exact and_assoc
theorem widen_le {o : Option T3} {x : Fg} {u : T3} (h : o = some u) : ∃ v, widen o x = some v ∧ leT v u := by
  unfold widen
  split
  · rename_i t _ _
    subst h
    exact ⟨_, rfl, meet_l u t⟩
  · exact ⟨u, h, leT.refl u⟩
theorem widen_fr {o : Option T3} {x : Fg} {t : T3} (hx : x.2 = true) (ht : frP x.1 = some t) : ∃ v, widen o x = some v ∧ leT v t := by
  unfold widen
  rw [hx, ht]
  exact ⟨_, rfl, meet_r _ t⟩
theorem widest_up : ∀ (fs : List Fg) {o : Option T3} {u : T3}, o = some u → ∃ v, widest o fs = some v ∧ leT v u
  | [], o, u, h => ⟨u, h, leT.refl u⟩
  | x :: fs, o, u, h => by
    obtain ⟨v, h1, h2⟩ := widen_le (x := x) h
    obtain ⟨w, h3, h4⟩ := widest_up fs h1
    exact ⟨w, h3, h4.trans h2⟩
theorem widest_le : ∀ (fs : List Fg) {o : Option T3} {x : Fg} {t : T3}, x ∈ fs → x.2 = true → frP x.1 = some t → ∃ v, widest o fs = some v ∧ leT v t
  | y :: fs, o, x, t, hm, hx, ht => by
    rcases List.mem_cons.mp hm with h | h
    · subst h
      obtain ⟨v, h1, h2⟩ := widen_fr (o := o) hx ht
      obtain ⟨w, h3, h4⟩ := widest_up fs h1
      exact ⟨w, h3, h4.trans h2⟩
    · exact widest_le fs h hx ht
theorem widest_ge (s : T3) : ∀ (fs : List Fg) {o : Option T3}, (∀ x ∈ fs, x.2 = true → ∀ t, frP x.1 = some t → leT s t) → (∀ u, o = some u → leT s u) → ∀ v, widest o fs = some v → leT s v
  | [], o, _, ho, v, hv => ho v hv
  | x :: fs, o, h, ho, v, hv => by
    refine widest_ge s fs (fun y hy => h y (List.mem_cons_of_mem _ hy)) (fun u hu => ?_) v hv
    unfold widen at hu
    split at hu
    · rename_i t hx ht
      cases hu
      have h1 := h x List.mem_cons_self hx t ht
      cases o with
      | none => exact meet_ge h1 h1
      | some w => exact meet_ge (ho w rfl) h1
    · exact ho u hu
/-- some triple, or None, agrees -/
def Agr (o : Option T3) (fs : List Fg) : Prop := ∀ x ∈ fs, allowsO o (frP x.1) = x.2
theorem agB_all {o : Option T3} {fs : List Fg} : fs.all (agB o) = true ↔ Agr o fs := by
  rw [List.all_eq_true]
  exact ⟨fun h x hx => of_decide_eq_true (h x hx), fun h x hx => decide_eq_true (h x hx)⟩
theorem possF_iff {fs : List Fg} : possF fs = true ↔ ∃ o, Agr o fs := by
  unfold possF
  rw [agB_all]
  refine ⟨fun h => ⟨_, h⟩, fun ⟨o, h⟩ x hx => ?_⟩
  cases hb : x.2 with
  | true =>
    cases hf : frP x.1 with
    | none => rfl
    | some t =>
      obtain ⟨v, h1, h2⟩ := widest_le fs (o := none) hx hb hf
      rw [h1]
      exact allows_leT.mpr h2
  | false =>
    have hxo := h x hx
    rw [hb] at hxo
    cases hf : frP x.1 with
    | none => rw [hf] at hxo; cases hxo
    | some t =>
      rw [hf] at hxo
      cases hw : widest none fs with
      | none => rfl
      | some v =>
        cases ha : allowsO (some v) (some t) with
        | false => rfl
        | true =>
          exfalso
          have hvt := allows_leT.mp ha
          cases o with
          | none =>
            -- None agrees: no harmless one has a frame, so the widest is none
            have hn : ∀ (gs : List Fg) , (∀ y ∈ gs, y ∈ fs) → widest none gs = none := by
              intro gs
              induction gs with
              | nil => intro _; rfl
              | cons y gs ih =>
                intro hs
                have hy := h y (hs y List.mem_cons_self)
                have e : widen none y = none := by
                  unfold widen
                  split
                  · rename_i u h1 h2
                    rw [h1, h2] at hy
                    cases hy
                  · rfl
                show widest (widen none y) gs = none
                rw [e]
                exact ih fun z hz => hs z (List.mem_cons_of_mem _ hz)
            rw [hn fs fun _ h => h] at hw
            cases hw
          | some u =>
            have hu := widest_ge u fs (o := none) (fun y hy h1 t' h2 => by
              have := h y hy
              rw [h1, h2] at this
              exact allows_leT.mp this) (fun _ z => by cases z) v hw
            rw [allows_leT.mpr (hu.trans hvt)] at hxo
            cases hxo
/-- fewer findings are possible too -/
theorem possF_mono {fs gs : List Fg} (h : possF fs = true) (hs : ∀ x ∈ gs, x ∈ fs) : possF gs = true := by
  obtain ⟨o, ho⟩ := possF_iff.mp h
  exact possF_iff.mpr ⟨o, fun x hx => ho x (hs x hx)⟩
end DL.K50
namespace DL.K50
open PySem PySem.Spec PyProof.Rows L2 DL
/-! ### lists of ints held against [] -/
theorem pyL_nat : ∀ ns : List Nat, pyL (ns.map nD) = some (ns.map fun n : Nat => PyData.int (n : Int))
  | [] => by rw [List.map_nil, pyL_nil]; rfl
  | n :: ns => by
    rw [List.map_cons, pyL_cons, nD, py_int]
    dsimp only
    rw [pyL_nat ns]
    rfl
theorem eqD_nil (ns : List Nat) : eqD (.lst (ns.map nD)) (.lst []) = some ns.isEmpty := by
  have hs : SeqAt.shaped (.list (ns.map fun n : Nat => PyData.int (n : Int))) = true := by
    have := shaped_ints (ns.map fun n : Nat => (n : Int))
    rw [List.map_map] at this
    exact this
  have h0 : SeqAt.shaped (.list []) = true := shaped_ints []
  unfold eqD
  rw [py_lst, py_lst, pyL_nat, pyL_nil]
  simp only [Option.map_some, hs, h0, Bool.and_self, if_true]
  cases ns <;> simp [PyData.eqv, PyData.eqvAll]
theorem gEq_nil (ns : List Nat) : gEq (.lst (ns.map nD)) (.lst []) = some (.st, .bl ns.isEmpty) := by unfold gEq; rw [eqD_nil]; rfl
theorem gNe_nil (ns : List Nat) : gNe (.lst (ns.map nD)) (.lst []) = some (.st, .bl (!ns.isEmpty)) := by unfold gNe; rw [eqD_nil]; rfl
/-! ### the law's own frame -/
def lfC (p : List Nat) (x1 x2 x3 : Option (Bool × D)) (W : Wd) : Cfg := ⟨[some (false, pD p), x1, x2, x3, none, none, none, none], W⟩
theorem lf_mv (p : List Nat) (W : Wd) (h : Pm p) : evLc (evEn (evCons (evV 0) evNil)) (tg2 4 5) [4, 5] (ev2 gNe (evB 5) (evB 4)) (evV 4) (lfC p none none none W) = .ok .fr (.lst ((moved p).map nD)) (lfC p none none none W) := by
  have e := evLc_pure (it := evEn (evCons (evV 0) evNil)) (tgt := tg2 4 5) (vs := [4, 5]) (ft := ev2 gNe (evB 5) (evB 4)) (fe := evV 4) (c0 := lfC p none none none W) (c := lfC p none none none W) (ds := enumD 0 (p.map nD)) ne2 fst2 rfl (sz_big h 0) (fun d hd => by
    obtain ⟨i, x, rfl⟩ := enumD_mem hd
    refine ⟨⟨[some (false, pD p), none, none, none, some (false, .int i), some (false, nD x), none, none], W⟩, rfl, ⟨.st, ?_⟩, fun _ => ⟨.st, by simp, rfl⟩, rfl⟩
    exact ev2_ok (k1 := .bo) (d1 := nD x) (k2 := .bo) (d2 := .int i) rfl rfl (by simp [nD, ne2]))
  rw [moved_map] at e
  exact e
theorem gMax2_dist (p : List Nat) (i : Nat) : gMax2 (.int ((i : Int) - (p.getD i 0 : Int))) (.int ((p.getD i 0 : Int) - (i : Int))) = some (.st, nD (dist p i)) := by
  show some (Kd.st, D.int (if (p.getD i 0 : Int) - (i : Int) > (i : Int) - (p.getD i 0 : Int) then (p.getD i 0 : Int) - (i : Int) else (i : Int) - (p.getD i 0 : Int))) = _
  have : (if (p.getD i 0 : Int) - (i : Int) > (i : Int) - (p.getD i 0 : Int) then (p.getD i 0 : Int) - (i : Int) else (i : Int) - (p.getD i 0 : Int)) = (dist p i : Int) := by
    unfold dist
    split <;> omega
  rw [this]
  rfl
theorem lf_gaps (p ms : List Nat) (o : Bool) (W : Wd) (hm : ∀ i ∈ ms, i < p.length) (hl : ms.length ≤ 1000) : evLc (evIt (evV 1)) (tgN 4) [4] (evC (.bl true)) (ev2 gMax2 (ev2 gSubI (evB 4) (ev2 gIx (evB 0) (evB 4))) (ev2 gSubI (ev2 gIx (evB 0) (evB 4)) (evB 4))) (lfC p (some (o, .lst (ms.map nD))) none none W) = .ok .fr (.lst ((ms.map (dist p)).map nD)) (lfC p (some (false, .lst (ms.map nD))) none none W) := by
  have e := evLc_map (it := evIt (evV 1)) (tgt := tgN 4) (vs := [4]) (ft := evC (.bl true)) (fe := ev2 gMax2 (ev2 gSubI (evB 4) (ev2 gIx (evB 0) (evB 4))) (ev2 gSubI (ev2 gIx (evB 0) (evB 4)) (evB 4))) (c0 := lfC p (some (o, .lst (ms.map nD))) none none W) (c := lfC p (some (false, .lst (ms.map nD))) none none W) nD (fun _ => true) (fun i => nD (dist p i)) ms (by cases o <;> rfl) hl (fun i hi => by
    refine ⟨⟨[some (false, pD p), some (false, .lst (ms.map nD)), none, none, some (false, nD i), none, none, none], W⟩, rfl, ⟨.st, rfl⟩, fun _ => ⟨.st, by simp, ?_⟩, rfl⟩
    have g1 : gIx (pD p) (nD i) = some (.st, nD (p.getD i 0)) := by
      show gIx (.tup (p.map nD)) (.int (i : Int)) = _
      rw [gIx_tup, nD_at (hm i hi)]
      rfl
    have q : ev2 gIx (evB 0) (evB 4) ⟨[some (false, pD p), some (false, .lst (ms.map nD)), none, none, some (false, nD i), none, none, none], W⟩ = .ok .st (nD (p.getD i 0)) ⟨[some (false, pD p), some (false, .lst (ms.map nD)), none, none, some (false, nD i), none, none, none], W⟩ := ev2_ok (k1 := .bo) (d1 := pD p) (k2 := .bo) (d2 := nD i) rfl rfl g1
    exact ev2_ok (ev2_ok (k1 := .bo) (d1 := nD i) rfl q rfl) (ev2_ok q (k2 := .bo) (d2 := nD i) rfl rfl) (gMax2_dist p i))
  rw [e, List.filter_eq_self.mpr (fun _ _ => rfl), List.map_map]
  rfl
/-- a comprehension whose slots may turn from own to shared -/
theorem lc_mapI {ι α : Type} {tgt : D → Cfg → Option Cfg} {vs : List Nat} {ft fe : EF} (C : ι → Cfg) (g : α → D) (t : α → Bool) (v : α → D) (gs : List α) : ∀ (acc : List D) (i : ι), acc.length + gs.length ≤ big →
    (∀ x ∈ gs, ∀ i, ∃ c1 c2 k, tgt (g x) ((C i).wipe vs) = some c1 ∧ ft c1 = .ok k (.bl (t x)) c2 ∧ (t x = false → ∃ j, Cfg.mrg vs (C i) c2 = C j) ∧ (t x = true → ∃ k' c3 j, k' ≠ .bo ∧ fe c2 = .ok k' (v x) c3 ∧ Cfg.mrg vs (C i) c3 = C j)) →
    ∃ j, goLc tgt vs ft fe (gs.map g) acc (C i) = .ok (acc ++ (gs.filter t).map v) (C j) := by
  induction gs with
  | nil => exact fun acc i _ _ => ⟨i, by simp [goLc]⟩
  | cons x gs ih =>
    intro acc i hl h
    obtain ⟨c1, c2, k, e1, e2, e3, e4⟩ := h x List.mem_cons_self i
    have hr := fun d hd => h d (List.mem_cons_of_mem _ hd)
    have hb : acc.length < big := by
      simp at hl
      omega
    cases ht : t x with
    | false =>
      obtain ⟨j, e5⟩ := e3 ht
      obtain ⟨l, e6⟩ := ih acc j (by simp at hl ⊢; omega) hr
      refine ⟨l, ?_⟩
      rw [List.map_cons]
      unfold goLc
      rw [e1]
      dsimp only
      rw [e2, ht]
      dsimp only
      rw [e5, e6, List.filter_cons_of_neg (by simp [ht])]
    | true =>
      obtain ⟨k', c3, j, hk, e5, e7⟩ := e4 ht
      obtain ⟨l, e6⟩ := ih (acc ++ [v x]) j (by simp at hl ⊢; omega) hr
      refine ⟨l, ?_⟩
      rw [List.map_cons]
      unfold goLc
      rw [e1]
      dsimp only
      rw [e2, ht]
      dsimp only
      rw [e5]
      cases k' with
      | bo => exact absurd rfl hk
      | st =>
        dsimp only
        rw [if_pos hb, e7, e6, List.filter_cons_of_pos ht]
        simp
      | fr =>
        dsimp only
        rw [if_pos hb, e7, e6, List.filter_cons_of_pos ht]
        simp
/-- [gap for gap in gaps if gap % step > 0] == [] -/
def lfT : EF := ev2 gEq (evLc (evIt (evV 2)) (tgN 7) [7] (ev2 gGt (ev2 gMod (ev1 gInt (evB 7)) (evB 6)) (evC (.int 0))) (evV 7)) (evLst evNil)
theorem lfT_eq (d0 : D) (x1 : Option (Bool × D)) (o : Bool) (gaps : List Nat) (s : Nat) (W : Wd) (hs : 0 < s) (hl : gaps.length ≤ 1000) : lfT ⟨[some (false, d0), x1, some (o, .lst (gaps.map nD)), none, none, none, some (false, nD s), none], W⟩ = .ok .st (.bl (gaps.all fun q => decide (s ∣ q))) ⟨[some (false, d0), x1, some (false, .lst (gaps.map nD)), none, none, none, some (false, nD s), none], W⟩ := by
  have e := evLc_map (it := evIt (evV 2)) (tgt := tgN 7) (vs := [7]) (ft := ev2 gGt (ev2 gMod (ev1 gInt (evB 7)) (evB 6)) (evC (.int 0))) (fe := evV 7) (c0 := ⟨[some (false, d0), x1, some (o, .lst (gaps.map nD)), none, none, none, some (false, nD s), none], W⟩) (c := ⟨[some (false, d0), x1, some (false, .lst (gaps.map nD)), none, none, none, some (false, nD s), none], W⟩) nD (fun q => decide (¬ s ∣ q)) nD gaps (by cases o <;> rfl) hl (fun q hq => by
    refine ⟨⟨[some (false, d0), x1, some (false, .lst (gaps.map nD)), none, none, none, some (false, nD s), some (false, nD q)], W⟩, rfl, ⟨.st, ?_⟩, fun _ => ⟨.st, by simp, rfl⟩, rfl⟩
    have g2 : gMod (.int (q : Int)) (nD s) = some (.st, .int ((q : Int) % (s : Int))) := by
      have : (0 : Int) < (s : Int) := by omega
      show ((if (0 : Int) < (s : Int) then some (D.int ((q : Int) % (s : Int))) else none).map fun d => (Kd.st, d)) = _
      rw [if_pos this]
      rfl
    have g3 : gGt (.int ((q : Int) % (s : Int))) (.int 0) = some (.st, .bl (decide (¬ s ∣ q))) := by
      show some (Kd.st, D.bl (decide ((0 : Int) < (q : Int) % (s : Int)))) = _
      congr 3
      refine decide_eq_decide.mpr ?_
      rw [Nat.dvd_iff_mod_eq_zero, ← Int.natCast_emod]
      omega
    exact ev2_ok (ev2_ok (ev1_ok (k1 := .bo) (d1 := nD q) rfl rfl) (k2 := .bo) (d2 := nD s) rfl g2) (k2 := .st) (d2 := .int 0) rfl g3)
  have hn : (gaps.filter fun q => decide (¬ s ∣ q)).isEmpty = gaps.all fun q => decide (s ∣ q) := by
    rw [Bool.eq_iff_iff, List.isEmpty_iff, List.filter_eq_nil_iff, List.all_eq_true]
    simp
  refine ev2_ok e (evLst_ok (ds := []) rfl (by simp)) ?_
  rw [gEq_nil, hn]
end DL.K50
namespace DL.K50
open PySem PySem.Spec PyProof.Rows L2 DL
/-! ### the least gap, the greatest fit -/
def minN (n : Nat) (ns : List Nat) : Nat := ns.foldl min n
theorem minI_nat (ns : List Nat) : ∀ n : Nat, minI (n : Int) (ns.map fun k : Nat => (k : Int)) = (minN n ns : Int) := by
  induction ns with
  | nil => exact fun n => rfl
  | cons k ns ih =>
    intro n
    show minI (if (k : Int) < (n : Int) then (k : Int) else (n : Int)) (ns.map fun k : Nat => (k : Int)) = (minN (min n k) ns : Int)
    have : (if (k : Int) < (n : Int) then (k : Int) else (n : Int)) = ((min n k : Nat) : Int) := by
      split <;> omega
    rw [this, ih]
theorem asI_nat (ns : List Nat) : asI (ns.map nD) = some (ns.map fun k : Nat => (k : Int)) := by
  induction ns with
  | nil => rfl
  | cons n ns ih => simp [asI, nD, ih] at *
theorem gMin_nat (n : Nat) (ns : List Nat) : gMin (.lst ((n :: ns).map nD)) = some (.st, nD (minN n ns)) := by
  show (asI ((n :: ns).map nD)).bind _ = _
  rw [asI_nat]
  show some (Kd.st, D.int (minI (n : Int) (ns.map fun k : Nat => (k : Int)))) = _
  rw [minI_nat]
  rfl
theorem minN_le (ns : List Nat) : ∀ n : Nat, minN n ns ≤ n ∧ ∀ k ∈ ns, minN n ns ≤ k := by
  induction ns with
  | nil => exact fun n => ⟨Nat.le_refl _, fun k h => nomatch h⟩
  | cons k ns ih =>
    intro n
    have := ih (min n k)
    refine ⟨Nat.le_trans this.1 (Nat.min_le_left _ _), fun q hq => ?_⟩
    rcases List.mem_cons.mp hq with h | h
    · subst h
      exact Nat.le_trans this.1 (Nat.min_le_right _ _)
    · exact this.2 q h
theorem minN_mem (ns : List Nat) : ∀ n : Nat, minN n ns ∈ n :: ns := by
  induction ns with
  | nil => exact fun n => List.mem_cons_self
  | cons k ns ih =>
    intro n
    have h := ih (min n k)
    rcases List.mem_cons.mp h with h | h
    · show minN (min n k) ns ∈ _
      rw [h]
      rcases Nat.le_total n k with q | q
      · rw [Nat.min_eq_left q]
        exact List.mem_cons_self
      · rw [Nat.min_eq_right q]
        exact List.mem_cons_of_mem _ List.mem_cons_self
    · exact List.mem_cons_of_mem _ (List.mem_cons_of_mem _ h)
theorem last_max : ∀ {xs : List Nat} (h : xs ≠ []), xs.Pairwise (· < ·) → ∀ y ∈ xs, y ≤ xs.getLast h
  | [x], h, _, y, hy => by
    rw [List.mem_singleton.mp hy]
    exact Nat.le_refl _
  | x :: z :: xs, h, hp, y, hy => by
    rw [List.pairwise_cons] at hp
    rw [List.getLast_cons (by simp)]
    rcases List.mem_cons.mp hy with e | e
    · subst e
      exact Nat.le_trans (Nat.le_of_lt (hp.1 z List.mem_cons_self)) (last_max (by simp) hp.2 z List.mem_cons_self)
    · exact last_max (by simp) hp.2 y e
/-- the steps that fit all gaps -/
def fits (m : Nat) (gaps : List Nat) : List Nat := ((List.range m).map (· + 1)).filter fun s => gaps.all fun q => decide (s ∣ q)
theorem fits_mem {m s : Nat} {gaps : List Nat} : s ∈ fits m gaps ↔ (1 ≤ s ∧ s ≤ m) ∧ ∀ q ∈ gaps, s ∣ q := by
  unfold fits
  rw [List.mem_filter, List.mem_map, List.all_eq_true]
  constructor
  · rintro ⟨⟨i, hi, rfl⟩, h⟩
    rw [List.mem_range] at hi
    exact ⟨⟨by omega, by omega⟩, fun q hq => of_decide_eq_true (h q hq)⟩
  · rintro ⟨⟨h1, h2⟩, h⟩
    exact ⟨⟨s - 1, by rw [List.mem_range]; omega, by omega⟩, fun q hq => decide_eq_true (h q hq)⟩
theorem fits_rise (m : Nat) (gaps : List Nat) : (fits m gaps).Pairwise (· < ·) := by
  unfold fits
  refine List.Pairwise.filter _ ?_
  rw [List.pairwise_map]
  exact List.pairwise_lt_range.imp fun h => by omega
/-- the last of them is the greatest divisor -/
theorem fits_last {m G : Nat} {gaps : List Nat} (hG : 1 ≤ G) (hm : G ≤ m) (hd : ∀ q ∈ gaps, G ∣ q) (hg : ∀ s, (∀ q ∈ gaps, s ∣ q) → s ∣ G) : ∃ h : fits m gaps ≠ [], (fits m gaps).getLast h = G := by
  have hin : G ∈ fits m gaps := fits_mem.mpr ⟨⟨hG, hm⟩, hd⟩
  have hne : fits m gaps ≠ [] := List.ne_nil_of_mem hin
  refine ⟨hne, Nat.le_antisymm ?_ (last_max hne (fits_rise m gaps) G hin)⟩
  have hl := fits_mem.mp (List.getLast_mem hne)
  exact Nat.le_of_dvd hG (hg _ hl.2)
end DL.K50
namespace DL.K50
open PySem PySem.Spec PyProof.Rows L2 DL
/-! ### _law_frame -/
theorem rOk_nat {n : Nat} (h : n ≤ 1000000) : rOk (n : Int) = true := by
  unfold rOk
  rw [Bool.and_eq_true]
  exact ⟨decide_eq_true (by omega), decide_eq_true (by omega)⟩
theorem rngD_1 (n : Nat) : rngD 1 n = ((List.range n).map (· + 1)).map nD := by
  unfold rngD
  rw [List.map_map]
  refine List.map_congr_left fun i _ => ?_
  show D.int (1 + (i : Int)) = D.int ((i + 1 : Nat) : Int)
  congr 1
  omega
theorem rngD_0 (n : Nat) : rngD 0 n = (List.range n).map nD := by
  unfold rngD
  refine List.map_congr_left fun i _ => ?_
  show D.int (0 + (i : Int)) = D.int (i : Int)
  congr 1
  omega
theorem evR2_ok {fe ff : EF} {c c1 c2 : Cfg} {k1 k2 : Kd} {i j : Int} (h1 : fe c = .ok k1 (.int i) c1) (h2 : ff c1 = .ok k2 (.int j) c2) (hi : rOk i = true) (hj : rOk j = true) : evR2 fe ff c = .ok (rngD i (j - i).toNat) c2 := by
  unfold evR2
  rw [h1]
  dsimp only
  rw [h2]
  dsimp only
  rw [hi, hj]
  rfl
theorem evR1_ok {fe : EF} {c c1 : Cfg} {k1 : Kd} {i : Int} (h1 : fe c = .ok k1 (.int i) c1) (hi : rOk i = true) : evR1 fe c = .ok (rngD 0 i.toNat) c1 := by
  unfold evR1
  rw [h1]
  dsimp only
  rw [hi]
  rfl
theorem evLc_of {it : AF} {tgt : D → Cfg → Option Cfg} {vs : List Nat} {ft fe : EF} {c0 c c1 : Cfg} {ds rs : List D} (hi : it c0 = .ok ds c) (h : goLc tgt vs ft fe ds [] c = .ok rs c1) : evLc it tgt vs ft fe c0 = .ok .fr (.lst rs) c1 := by
  unfold evLc
  rw [hi]
  dsimp only
  rw [h]
  rfl
theorem lf_it (p : List Nat) (x1 : Option (Bool × D)) (q : Nat) (qs : List Nat) (W : Wd) (hq : minN q qs ≤ 1000) : evR2 (evC (.int 1)) (ev2 gAdd (ev1 gMin (evB 2)) (evC (.int 1))) (lfC p x1 (some (true, .lst ((q :: qs).map nD))) none W) = .ok (((List.range (minN q qs)).map (· + 1)).map nD) (lfC p x1 (some (true, .lst ((q :: qs).map nD))) none W) := by
  have e1 : ev1 gMin (evB 2) (lfC p x1 (some (true, .lst ((q :: qs).map nD))) none W) = .ok .st (nD (minN q qs)) (lfC p x1 (some (true, .lst ((q :: qs).map nD))) none W) := ev1_ok (k1 := .bo) (d1 := .lst ((q :: qs).map nD)) rfl (gMin_nat q qs)
  have e2 : ev2 gAdd (ev1 gMin (evB 2)) (evC (.int 1)) (lfC p x1 (some (true, .lst ((q :: qs).map nD))) none W) = .ok .st (.int ((minN q qs + 1 : Nat) : Int)) (lfC p x1 (some (true, .lst ((q :: qs).map nD))) none W) := ev2_ok e1 (k2 := .st) (d2 := .int 1) rfl rfl
  have e3 := evR2_ok (fe := evC (.int 1)) (ff := ev2 gAdd (ev1 gMin (evB 2)) (evC (.int 1))) (c := lfC p x1 (some (true, .lst ((q :: qs).map nD))) none W) (k1 := .st) (i := 1) rfl e2 (rOk_nat (n := 1) (by omega)) (rOk_nat (n := minN q qs + 1) (by omega))
  rw [e3]
  have : (((minN q qs + 1 : Nat) : Int) - 1).toNat = minN q qs := by omega
  rw [this, rngD_1]
theorem lf_fit (p : List Nat) (x1 : Option (Bool × D)) (q : Nat) (qs : List Nat) (W : Wd) (h1 : shOf x1 = x1) (hq : minN q qs ≤ 1000) (hl : (q :: qs).length ≤ 1000) : ∃ o : Bool, evLc (evR2 (evC (.int 1)) (ev2 gAdd (ev1 gMin (evB 2)) (evC (.int 1)))) (tgN 6) [6] lfT (evV 6) (lfC p x1 (some (true, .lst ((q :: qs).map nD))) none W) = .ok .fr (.lst ((fits (minN q qs) (q :: qs)).map nD)) (lfC p x1 (some (o, .lst ((q :: qs).map nD))) none W) := by
  obtain ⟨o, e⟩ := lc_mapI (tgt := tgN 6) (vs := [6]) (ft := lfT) (fe := evV 6) (fun o : Bool => lfC p x1 (some (o, .lst ((q :: qs).map nD))) none W) nD (fun s => (q :: qs).all fun g => decide (s ∣ g)) nD ((List.range (minN q qs)).map (· + 1)) [] true (by
    rw [List.length_map, List.length_range]
    exact big_of (by show 0 + _ ≤ _; omega)) (fun s hs o => by
      have hs0 : 0 < s := by
        rw [List.mem_map] at hs
        obtain ⟨i, _, rfl⟩ := hs
        omega
      have e := lfT_eq (pD p) x1 o (q :: qs) s W hs0 hl
      refine ⟨_, _, _, rfl, e, fun _ => ⟨false, rfl⟩, fun _ => ⟨.st, _, false, by simp, rfl, rfl⟩⟩)
  exact ⟨o, evLc_of (lf_it p x1 q qs W hq) e⟩
end DL.K50
namespace DL.K50
open PySem PySem.Spec PyProof.Rows L2 DL
theorem dist_le {p : List Nat} (h : Pm p) {i : Nat} (hi : i < p.length) : dist p i ≤ 1000 := by
  have h1 : p.getD i 0 < p.length := by
    have := h.lt (p[i]) (List.getElem_mem hi)
    simpa [List.getD_eq_getElem?_getD, hi] using this
  have := h.sz
  unfold dist
  omega
theorem gaps_G {p : List Nat} {m : Nat} {ms : List Nat} (h : Pm p) (hms : moved p = m :: ms) : minN (dist p m) (ms.map (dist p)) ≤ 1000 ∧ ∃ hne : fits (minN (dist p m) (ms.map (dist p))) (dist p m :: ms.map (dist p)) ≠ [], (fits (minN (dist p m) (ms.map (dist p))) (dist p m :: ms.map (dist p))).getLast hne = gapG p (m :: ms) 0 := by
  have hlt : ∀ i ∈ m :: ms, i < p.length := fun i hi => moved_lt (by rw [hms]; exact hi)
  have hd0 : ∀ i ∈ m :: ms, 0 < dist p i := fun i hi => moved_dist (fun _ _ => trivial) i (by rw [hms]; exact hi)
  have hG := (gapG_dvd p (gapG p (m :: ms) 0) (m :: ms) 0).mp (Nat.dvd_refl _)
  have hall : ∀ q ∈ dist p m :: ms.map (dist p), ∃ i ∈ m :: ms, q = dist p i := fun q hq => by
    have : q ∈ (m :: ms).map (dist p) := hq
    rw [List.mem_map] at this
    obtain ⟨i, hi, rfl⟩ := this
    exact ⟨i, hi, rfl⟩
  have hmin := hall _ (minN_mem (ms.map (dist p)) (dist p m))
  obtain ⟨i0, hi0, e0⟩ := hmin
  have hG1 : 1 ≤ gapG p (m :: ms) 0 := Nat.pos_of_dvd_of_pos (hG.2 m List.mem_cons_self) (hd0 m List.mem_cons_self)
  refine ⟨by rw [e0]; exact dist_le h (hlt i0 hi0), fits_last hG1 ?_ ?_ ?_⟩
  · rw [e0]
    exact Nat.le_of_dvd (hd0 i0 hi0) (hG.2 i0 hi0)
  · intro q hq
    obtain ⟨i, hi, rfl⟩ := hall q hq
    exact hG.2 i hi
  · intro s hs
    refine (gapG_dvd p s (m :: ms) 0).mpr ⟨Nat.dvd_zero _, fun i hi => hs _ ?_⟩
    show dist p i ∈ (m :: ms).map (dist p)
    exact List.mem_map_of_mem hi
theorem lf_end (p : List Nat) (m : Nat) (ms : List Nat) (o : Bool) (gs fs : List Nat) (G : Nat) (W : Wd) (hlast : (m :: ms).getLast (by simp) < p.length) (hne : fs ≠ []) (hG : fs.getLast hne = G) : sRet (evTup (evCons (ev2 gIx (evB 1) (evC (.int 0))) (evCons (ev2 gSubI (ev2 gSubI (ev1 gLen (evB 0)) (evC (.int 1))) (ev2 gIx (evB 1) (evNeg (evC (.int 1))))) (evCons (ev2 gIx (evB 3) (evNeg (evC (.int 1)))) evNil)))) (lfC p (some (false, .lst ((m :: ms).map nD))) (some (o, .lst (gs.map nD))) (some (true, .lst (fs.map nD))) W) = .ret false (tD (m, p.length - 1 - (m :: ms).getLast (by simp), G)) W := by
  have e0 : L2.atI ((m :: ms).map nD) (0 : Int) = some (nD m) := atI_nat (xs := (m :: ms).map nD) (i := 0) (by simp)
  have e1 : L2.atI ((m :: ms).map nD) (-1 : Int) = some (nD ((m :: ms).getLast (by simp))) := by
    rw [atI_last (by simp), List.getLast_map]
  have e4 : L2.atI (fs.map nD) (-1 : Int) = some (nD G) := by
    rw [atI_last (by simpa using hne), List.getLast_map, hG]
  have e2 : ((p.length : Int) - 1 - (((m :: ms).getLast (by simp) : Nat) : Int)) = ((p.length - 1 - (m :: ms).getLast (by simp) : Nat) : Int) := by omega
  generalize hl : (m :: ms).getLast (by simp) = l at hlast e1 e2 ⊢
  generalize hc : lfC p (some (false, .lst ((m :: ms).map nD))) (some (o, .lst (gs.map nD))) (some (true, .lst (fs.map nD))) W = c
  have hW : c.W = W := by rw [← hc]; rfl
  have q1 : evB 1 c = .ok .bo (.lst ((m :: ms).map nD)) c := by rw [← hc]; rfl
  have q3 : evB 3 c = .ok .bo (.lst (fs.map nD)) c := by rw [← hc]; rfl
  have q2 : ev1 gLen (evB 0) c = .ok .st (.int (p.length : Int)) c := ev1_ok (k1 := .bo) (d1 := pD p) (by rw [← hc]; rfl) (by
    show some (Kd.st, D.int ((p.map nD).length : Int)) = _
    rw [List.length_map])
  have g1 : gIx (.lst ((m :: ms).map nD)) (.int 0) = some (.st, nD m) := by rw [gIx_lst, e0]; rfl
  have g2 : gIx (.lst ((m :: ms).map nD)) (.int (-1)) = some (.st, nD l) := by rw [gIx_lst, e1]; rfl
  have g4 : gIx (.lst (fs.map nD)) (.int (-1)) = some (.st, nD G) := by rw [gIx_lst, e4]; rfl
  have g3 : gSubI (.int ((p.length : Int) - 1)) (nD l) = some (.st, nD (p.length - 1 - l)) := by
    show some (Kd.st, D.int ((p.length : Int) - 1 - (l : Int))) = _
    rw [e2]
    rfl
  have hr := sRet_st (fa := evTup (evCons (ev2 gIx (evB 1) (evC (.int 0))) (evCons (ev2 gSubI (ev2 gSubI (ev1 gLen (evB 0)) (evC (.int 1))) (ev2 gIx (evB 1) (evNeg (evC (.int 1))))) (evCons (ev2 gIx (evB 3) (evNeg (evC (.int 1)))) evNil)))) (d := tD (m, p.length - 1 - l, G)) (c := c) (c1 := c) (by
    refine evTup_ok (ds := [nD m, nD (p.length - 1 - l), nD G]) ?_ (by simp)
    refine evCons_ok (ev2_ok q1 (k2 := .st) (d2 := .int 0) rfl g1) (by simp) ?_
    refine evCons_ok (k := .st) (ev2_ok (d1 := .int ((p.length : Int) - 1)) (ev2_ok q2 (k2 := .st) (d2 := .int 1) rfl rfl) (ev2_ok q1 (k2 := .st) (d2 := .int (-1)) rfl g2) g3) (by simp) ?_
    exact evCons_ok (ev2_ok q3 (k2 := .st) (d2 := .int (-1)) rfl g4) (by simp) rfl)
  rw [hW] at hr
  exact hr
theorem law_frame_eq (p : List Nat) (W : Wd) (h : Pm p) : F__law_frame [pD p] W = .ret false (frD (frP p)) W := by
  have hm := lf_mv p W h
  refine runD_of (c := lfC p none none none W) rfl ?_
  refine seq_nx (c1 := lfC p (some (true, .lst ((moved p).map nD))) none none W) ?_ ?_
  · unfold sSet
    rw [show tgTup 2 (tgCons (tgN 4) (tgCons (tgN 5) tgNil)) = tg2 4 5 from rfl, hm]
    rfl
  have ec : ev2 gEq (evB 1) (evLst evNil) (lfC p (some (true, .lst ((moved p).map nD))) none none W) = .ok .st (.bl (moved p).isEmpty) (lfC p (some (true, .lst ((moved p).map nD))) none none W) := ev2_ok (k1 := .bo) (d1 := .lst ((moved p).map nD)) rfl (evLst_ok (ds := []) rfl (by simp)) (gEq_nil _)
  have hsz : (moved p).length ≤ 1000 := Nat.le_trans (movedF_len 0 p) h.sz
  have hlt : ∀ i ∈ moved p, i < p.length := fun i hi => moved_lt hi
  cases hms : moved p with
  | nil =>
    have e : frP p = none := by unfold frP; rw [hms]
    rw [e]
    rw [hms] at ec
    exact seq_ret (sIf_t ec rfl)
  | cons m ms =>
    have e : frP p = some (m, p.length - 1 - (m :: ms).getLast (by simp), gapG p (m :: ms) 0) := by
      unfold frP
      rw [hms]
    rw [e]
    rw [hms] at ec hsz hlt
    obtain ⟨hq, hne, hG⟩ := gaps_G h hms
    have eg := lf_gaps p (m :: ms) true W hlt hsz
    obtain ⟨o, ef⟩ := lf_fit p (some (false, .lst ((m :: ms).map nD))) (dist p m) (ms.map (dist p)) W rfl hq (by simpa using hsz)
    refine seq_nx (c1 := lfC p (some (true, .lst ((m :: ms).map nD))) none none W) (sIf_f ec rfl) ?_
    refine seq_nx (c1 := lfC p (some (false, .lst ((m :: ms).map nD))) (some (true, .lst ((dist p m :: ms.map (dist p)).map nD))) none W) (sSet_ok eg rfl) ?_
    refine seq_nx (c1 := lfC p (some (false, .lst ((m :: ms).map nD))) (some (o, .lst ((dist p m :: ms.map (dist p)).map nD))) (some (true, .lst ((fits (minN (dist p m) (ms.map (dist p))) (dist p m :: ms.map (dist p))).map nD))) W) (sSet_ok ef rfl) ?_
    exact lf_end p m ms o _ _ _ W (hlt _ (List.getLast_mem _)) hne hG
end DL.K50
namespace DL.K50
open PySem PySem.Spec PyProof.Rows L2 DL
/-! ### data of little depth; [] -/
def Good (k : Nat) (d : D) : Prop := ∃ q, D.py d = some q ∧ PyData.canLay0 q = true ∧ PyData.depth q ≤ k
theorem goodL {k : Nat} : ∀ ds : List D, (∀ d ∈ ds, Good k d) → ∃ qs, pyL ds = some qs ∧ PyData.canLayAll0 qs = true ∧ PyData.depthAll qs ≤ k ∧ qs.length = ds.length
  | [], _ => ⟨[], pyL_nil, by simp only [PyData.canLayAll0], by simp only [PyData.depthAll]; omega, rfl⟩
  | d :: ds, h => by
    obtain ⟨q, e1, e2, e3⟩ := h d List.mem_cons_self
    obtain ⟨qs, f1, f2, f3, f4⟩ := goodL ds (fun x hx => h x (List.mem_cons_of_mem _ hx))
    refine ⟨q :: qs, ?_, ?_, ?_, by simp [f4]⟩
    · rw [pyL_cons, e1]
      dsimp only
      rw [f1]
      rfl
    · simp only [PyData.canLayAll0, e2, f2, Bool.and_self]
    · simp only [PyData.depthAll]
      omega
theorem good_int (k : Nat) (i : Int) : Good k (.int i) := ⟨_, py_int, by simp only [PyData.canLay0], by simp only [PyData.depth]; omega⟩
theorem good_nat (k n : Nat) : Good k (nD n) := good_int k n
theorem good_bl (k : Nat) (b : Bool) : Good k (.bl b) := ⟨_, py_bl, by simp only [PyData.canLay0], by simp only [PyData.depth]; omega⟩
theorem good_non (k : Nat) : Good k .non := ⟨_, py_non, by simp only [PyData.canLay0], by simp only [PyData.depth]; omega⟩
theorem good_tup {k : Nat} {ds : List D} (h : ∀ d ∈ ds, Good k d) : Good (k + 1) (.tup ds) := by
  obtain ⟨qs, f1, f2, f3, _⟩ := goodL ds h
  exact ⟨.tuple qs, by rw [py_tup, f1]; rfl, by simp only [PyData.canLay0, f2], by simp only [PyData.depth]; omega⟩
theorem good_lst {k : Nat} {ds : List D} (h : ∀ d ∈ ds, Good k d) : Good (k + 1) (.lst ds) := by
  obtain ⟨qs, f1, f2, f3, _⟩ := goodL ds h
  exact ⟨.list qs, by rw [py_lst, f1]; rfl, by simp only [PyData.canLay0, f2], by simp only [PyData.depth]; omega⟩
theorem good_pD (k : Nat) (p : List Nat) : Good (k + 1) (pD p) := good_tup fun d hd => by
  obtain ⟨n, _, rfl⟩ := List.mem_map.mp hd
  exact good_nat k n
theorem good_tD (k : Nat) (t : T3) : Good (k + 1) (tD t) := good_tup fun d hd => by
  rcases List.mem_cons.mp hd with rfl | hd
  · exact good_nat k _
  rcases List.mem_cons.mp hd with rfl | hd
  · exact good_nat k _
  rcases List.mem_cons.mp hd with rfl | hd
  · exact good_nat k _
  cases hd
theorem good_frD (k : Nat) (o : Option T3) : Good (k + 1) (frD o) := by
  cases o with
  | none => exact good_non _
  | some t => exact good_tD k t
theorem good_fgD (k : Nat) (x : Fg) : Good (k + 2) (fgD x) := good_tup fun d hd => by
  rcases List.mem_cons.mp hd with rfl | hd
  · exact good_pD k _
  rcases List.mem_cons.mp hd with rfl | hd
  · exact good_bl _ _
  cases hd
theorem shaped_good {k : Nat} {d : D} (h : Good k d) (hk : k ≤ 64) : ∃ q, D.py d = some q ∧ SeqAt.shaped q = true := by
  obtain ⟨q, e, h1, h2⟩ := h
  refine ⟨q, e, ?_⟩
  unfold SeqAt.shaped
  rw [h1, Bool.true_and]
  exact decide_eq_true (by omega)
theorem eqD_nilG {ds : List D} {k : Nat} (h : ∀ d ∈ ds, Good k d) (hk : k ≤ 60) : eqD (.lst ds) (.lst []) = some ds.isEmpty := by
  obtain ⟨qs, f1, f2, f3, f4⟩ := goodL ds h
  have hs : SeqAt.shaped (.list qs) = true := by
    unfold SeqAt.shaped
    simp only [PyData.canLay0, f2, Bool.true_and, PyData.depth]
    exact decide_eq_true (by omega)
  have h0 : SeqAt.shaped (.list []) = true := shaped_ints []
  unfold eqD
  rw [py_lst, py_lst, f1, pyL_nil]
  simp only [Option.map_some, hs, h0, Bool.and_self, if_true]
  cases ds with
  | nil =>
    have : qs = [] := List.length_eq_zero_iff.mp f4
    subst this
    simp [PyData.eqv, PyData.eqvAll]
  | cons d ds =>
    cases qs with
    | nil => cases f4
    | cons q qs => simp [PyData.eqv, PyData.eqvAll]
theorem gEq_nilG {ds : List D} {k : Nat} (h : ∀ d ∈ ds, Good k d) (hk : k ≤ 60) : gEq (.lst ds) (.lst []) = some (.st, .bl ds.isEmpty) := by unfold gEq; rw [eqD_nilG h hk]; rfl
theorem gNe_nilG {ds : List D} {k : Nat} (h : ∀ d ∈ ds, Good k d) (hk : k ≤ 60) : gNe (.lst ds) (.lst []) = some (.st, .bl (!ds.isEmpty)) := by unfold gNe; rw [eqD_nilG h hk]; rfl
end DL.K50
namespace DL.K50
open PySem PySem.Spec PyProof.Rows L2 DL
/-! ### _law_bound -/
/-- the frames of what is told harmless -/
def frs : List Fg → List T3
  | [] => []
  | x :: fs => match x.2, frP x.1 with
    | true, some t => t :: frs fs
    | _, _ => frs fs
def bound : List T3 → Option T3
  | [] => none
  | t :: ts => some (ts.foldl meet t)
theorem meet_self (t : T3) : meet t t = t := by
  unfold meet
  rw [Nat.min_self, Nat.min_self, Nat.gcd_self]
theorem widest_some (fs : List Fg) : ∀ t : T3, widest (some t) fs = some ((frs fs).foldl meet t) := by
  induction fs with
  | nil => exact fun t => rfl
  | cons x fs ih =>
    intro t
    unfold widest widen frs
    cases h1 : x.2 with
    | false => exact ih t
    | true =>
      cases h2 : frP x.1 with
      | none => exact ih t
      | some u => exact ih (meet t u)
theorem widest_bound (fs : List Fg) : widest none fs = bound (frs fs) := by
  induction fs with
  | nil => rfl
  | cons x fs ih =>
    unfold widest widen frs
    cases h1 : x.2 with
    | false => exact ih
    | true =>
      cases h2 : frP x.1 with
      | none => exact ih
      | some u =>
        show widest (some (meet u u)) fs = _
        rw [meet_self, widest_some]
        rfl
theorem frs_len (fs : List Fg) : (frs fs).length ≤ fs.length := by
  induction fs with
  | nil => exact Nat.le_refl _
  | cons x fs ih =>
    unfold frs
    split <;> simp <;> omega
theorem frs_map (fs : List Fg) : (fs.filter fun x => x.2 && (frP x.1).isSome).map (fun x => frD (frP x.1)) = (frs fs).map tD := by
  induction fs with
  | nil => rfl
  | cons x fs ih =>
    unfold frs
    cases h1 : x.2 with
    | false =>
      rw [List.filter_cons_of_neg (by simp [h1])]
      exact ih
    | true =>
      cases h2 : frP x.1 with
      | none =>
        rw [List.filter_cons_of_neg (by simp [h2])]
        exact ih
      | some u =>
        rw [List.filter_cons_of_pos (by simp [h1, h2]), List.map_cons, ih, h2]
        rfl
theorem foldl_meet (ts : List T3) : ∀ t : T3, ts.foldl meet t = (minN t.1 (ts.map (·.1)), minN t.2.1 (ts.map (·.2.1)), (ts.map (·.2.2)).foldl Nat.gcd t.2.2) := by
  induction ts with
  | nil => exact fun t => rfl
  | cons u ts ih => exact fun t => ih (meet t u)
def lbC (d0 : D) (x1 x2 x3 x4 x5 : Option (Bool × D)) (W : Wd) : Cfg := ⟨[some (false, d0), x1, x2, x3, x4, x5], W⟩
def lbT : EF := evAnd (evTru (evB 5)) (ev2 gNotN (evCall 1 F__law_frame (evCons (evV 4) evNil)) (evC .non))
def lbE : EF := evCall 1 F__law_frame (evCons (evV 4) evNil)
theorem lbE_eq (d0 : D) (x1 x2 x3 : Option (Bool × D)) (x : Fg) (W : Wd) (h : Pm x.1) : lbE (lbC d0 x1 x2 x3 (some (false, pD x.1)) (some (false, .bl x.2)) W) = .ok .st (frD (frP x.1)) (lbC d0 x1 x2 x3 (some (false, pD x.1)) (some (false, .bl x.2)) W) :=
  evCall_c (ds := [pD x.1]) (evCons_ok (k := .st) rfl (by simp) rfl) rfl (law_frame_eq x.1 W h)
theorem notN_frD (o : Option T3) : gNotN (frD o) .non = some (.st, .bl o.isSome) := by cases o <;> rfl
theorem isN_frD (o : Option T3) : gIsN (frD o) .non = some (.st, .bl o.isNone) := by cases o <;> rfl
theorem lbT_eq (d0 : D) (x1 x2 x3 : Option (Bool × D)) (x : Fg) (W : Wd) (h : Pm x.1) : lbT (lbC d0 x1 x2 x3 (some (false, pD x.1)) (some (false, .bl x.2)) W) = .ok .st (.bl (x.2 && (frP x.1).isSome)) (lbC d0 x1 x2 x3 (some (false, pD x.1)) (some (false, .bl x.2)) W) := by
  have q : evTru (evB 5) (lbC d0 x1 x2 x3 (some (false, pD x.1)) (some (false, .bl x.2)) W) = .ok .st (.bl x.2) (lbC d0 x1 x2 x3 (some (false, pD x.1)) (some (false, .bl x.2)) W) := evTru_t (k := .bo) rfl
  cases hx : x.2 with
  | false =>
    rw [hx] at q
    exact evAnd_f q
  | true =>
    have q2 := lbE_eq d0 x1 x2 x3 x W h
    rw [hx] at q q2
    refine evAnd_t q ?_
    exact ev2_ok q2 (k2 := .st) (d2 := .non) rfl (notN_frD _)
theorem lb_lc (b : Bool) (fs : List Fg) (W : Wd) (h : FOk fs) : evLc (evIt (evV 0)) (tg2 4 5) [4, 5] lbT lbE (lbC (sqD b (fs.map fgD)) none none none none none W) = .ok .fr (.lst ((frs fs).map tD)) (lbC (sqD b (fs.map fgD)) none none none none none W) := by
  have e := evLc_map (it := evIt (evV 0)) (tgt := tg2 4 5) (vs := [4, 5]) (ft := lbT) (fe := lbE) (c0 := lbC (sqD b (fs.map fgD)) none none none none none W) (c := lbC (sqD b (fs.map fgD)) none none none none none W) fgD (fun x => x.2 && (frP x.1).isSome) (fun x => frD (frP x.1)) fs (by cases b <;> rfl) h.sz (fun x hx =>
    ⟨lbC (sqD b (fs.map fgD)) none none none (some (false, pD x.1)) (some (false, .bl x.2)) W, rfl, ⟨.st, lbT_eq _ _ _ _ x W (h.pm x hx)⟩, fun _ => ⟨.st, by simp, lbE_eq _ _ _ _ x W (h.pm x hx)⟩, rfl⟩)
  rw [e, frs_map]
/-! the divisor -/
theorem lb_go (d0 : D) (x1 : Option (Bool × D)) (W : Wd) (ts : List T3) : ∀ (s : Nat) (x3 : Option (Bool × D)), shOf x3 = x3 → ∃ y3, shOf y3 = y3 ∧ goFor (tgN 3) (sSet 2 (evCall 2 F__law_gcd (evCons (evV 2) (evCons (ev2 gIx (evB 3) (evC (.int 2))) evNil)))) (ts.map tD) (lbC d0 x1 (some (false, nD s)) x3 none none W) = .nx (lbC d0 x1 (some (false, nD ((ts.map (·.2.2)).foldl Nat.gcd s))) y3 none none W) := by
  induction ts with
  | nil => exact fun s x3 h => ⟨x3, h, rfl⟩
  | cons t ts ih =>
    intro s x3 h
    obtain ⟨y3, hy, e⟩ := ih (Nat.gcd s t.2.2) (some (false, tD t)) rfl
    refine ⟨y3, hy, ?_⟩
    rw [List.map_cons]
    refine for_step (c1 := lbC d0 x1 (some (false, nD s)) (some (false, tD t)) none none W) (c2 := lbC d0 x1 (some (false, nD (Nat.gcd s t.2.2))) (some (false, tD t)) none none W) rfl ?_ e
    have q1 : ev2 gIx (evB 3) (evC (.int 2)) (lbC d0 x1 (some (false, nD s)) (some (false, tD t)) none none W) = .ok .st (nD t.2.2) (lbC d0 x1 (some (false, nD s)) (some (false, tD t)) none none W) := ev2_ok (k1 := .bo) (d1 := tD t) (k2 := .st) (d2 := .int 2) rfl rfl (tD_2 t)
    have q : evCall 2 F__law_gcd (evCons (evV 2) (evCons (ev2 gIx (evB 3) (evC (.int 2))) evNil)) (lbC d0 x1 (some (false, nD s)) (some (false, tD t)) none none W) = .ok .st (nD (Nat.gcd s t.2.2)) (lbC d0 x1 (some (false, nD s)) (some (false, tD t)) none none W) :=
      evCall_c (ds := [nD s, nD t.2.2]) (evCons_ok (k := .st) rfl (by simp) (evCons_ok q1 (by simp) rfl)) rfl (law_gcd_eq s t.2.2 W)
    exact sSet_ok q rfl
theorem lb_min (d0 : D) (t : T3) (ts : List T3) (g : T3 → Nat) (k : Int) (s : Nat) (x3 : Option (Bool × D)) (W : Wd) (h3 : shOf x3 = x3) (hl : (t :: ts).length ≤ 1000) (hg : ∀ t, gIx (tD t) (.int k) = some (.st, nD (g t))) : ev1 gMin (evLc (evIt (evV 1)) (tgN 3) [3] (evC (.bl true)) (ev2 gIx (evB 3) (evC (.int k)))) (lbC d0 (some (false, .lst ((t :: ts).map tD))) (some (false, nD s)) x3 none none W) = .ok .st (nD (minN (g t) (ts.map g))) (lbC d0 (some (false, .lst ((t :: ts).map tD))) (some (false, nD s)) x3 none none W) := by
  have e := evLc_map (it := evIt (evV 1)) (tgt := tgN 3) (vs := [3]) (ft := evC (.bl true)) (fe := ev2 gIx (evB 3) (evC (.int k))) (c0 := lbC d0 (some (false, .lst ((t :: ts).map tD))) (some (false, nD s)) x3 none none W) (c := lbC d0 (some (false, .lst ((t :: ts).map tD))) (some (false, nD s)) x3 none none W) tD (fun _ => true) (fun u => nD (g u)) (t :: ts) rfl hl (fun u hu =>
    ⟨lbC d0 (some (false, .lst ((t :: ts).map tD))) (some (false, nD s)) (some (false, tD u)) none none W, rfl, ⟨.st, rfl⟩, fun _ => ⟨.st, by simp, ev2_ok (k1 := .bo) (d1 := tD u) (k2 := .st) (d2 := .int k) rfl rfl (hg u)⟩, by
      show lbC d0 (some (false, .lst ((t :: ts).map tD))) (some (false, nD s)) (shOf x3) none none W = _
      rw [h3]⟩)
  refine ev1_ok e ?_
  rw [List.filter_eq_self.mpr (fun _ _ => rfl)]
  have : ((t :: ts).map fun u => nD (g u)) = (g t :: ts.map g).map nD := by rw [List.map_cons, List.map_cons, List.map_map]; rfl
  rw [this]
  exact gMin_nat _ _
theorem law_bound_eq (b : Bool) (fs : List Fg) (W : Wd) (h : FOk fs) : F__law_bound [sqD b (fs.map fgD)] W = .ret false (frD (widest none fs)) W := by
  refine runD_of (c := lbC (sqD b (fs.map fgD)) none none none none none W) rfl ?_
  have e1 := lb_lc b fs W h
  have hl : (frs fs).length ≤ 1000 := Nat.le_trans (frs_len fs) h.sz
  rw [widest_bound]
  generalize hd : sqD b (fs.map fgD) = d0 at e1 ⊢
  refine seq_nx (c1 := lbC d0 (some (true, .lst ((frs fs).map tD))) none none none none W) (sSet_ok e1 rfl) ?_
  have ec : ev2 gEq (evB 1) (evLst evNil) (lbC d0 (some (true, .lst ((frs fs).map tD))) none none none none W) = .ok .st (.bl ((frs fs).map tD).isEmpty) (lbC d0 (some (true, .lst ((frs fs).map tD))) none none none none W) := ev2_ok (k1 := .bo) (d1 := .lst ((frs fs).map tD)) rfl (evLst_ok (ds := []) rfl (by simp)) (gEq_nilG (k := 1) (fun d hd => by
    obtain ⟨t, _, rfl⟩ := List.mem_map.mp hd
    exact good_tD 0 t) (by omega))
  generalize frs fs = ts0 at *
  cases ts0 with
  | nil => exact seq_ret (sIf_t ec rfl)
  | cons t ts =>
    refine seq_nx (c1 := lbC d0 (some (true, .lst ((t :: ts).map tD))) none none none none W) (sIf_f ec rfl) ?_
    refine seq_nx (c1 := lbC d0 (some (true, .lst ((t :: ts).map tD))) (some (false, nD 0)) none none none W) rfl ?_
    obtain ⟨y3, hy, eg⟩ := lb_go d0 (some (false, .lst ((t :: ts).map tD))) W (t :: ts) 0 none rfl
    have hs : ((t :: ts).map (·.2.2)).foldl Nat.gcd 0 = (ts.map (·.2.2)).foldl Nat.gcd t.2.2 := by
      show (ts.map (·.2.2)).foldl Nat.gcd (Nat.gcd 0 t.2.2) = _
      rw [Nat.gcd_zero_left]
    rw [hs] at eg
    generalize hS : (ts.map (·.2.2)).foldl Nat.gcd t.2.2 = S at eg
    refine seq_nx (c1 := lbC d0 (some (false, .lst ((t :: ts).map tD))) (some (false, nD S)) y3 none none W) (sFor_ok (ds := (t :: ts).map tD) (c1 := lbC d0 (some (false, .lst ((t :: ts).map tD))) (some (false, nD 0)) none none none W) rfl eg) ?_
    have m1 := lb_min d0 t ts (fun u => u.1) 0 S y3 W hy hl tD_0
    have m2 := lb_min d0 t ts (fun u => u.2.1) 1 S y3 W hy hl tD_1
    rw [show frD (bound (t :: ts)) = tD (ts.foldl meet t) from rfl, foldl_meet, hS]
    refine sRet_st (c1 := lbC d0 (some (false, .lst ((t :: ts).map tD))) (some (false, nD S)) y3 none none W) ?_
    refine evTup_ok (ds := [nD (minN t.1 (ts.map fun u => u.1)), nD (minN t.2.1 (ts.map fun u => u.2.1)), nD S]) ?_ (by simp)
    refine evCons_ok m1 (by simp) (evCons_ok m2 (by simp) ?_)
    exact evCons_ok (k := .st) rfl (by simp) rfl
end DL.K50
namespace DL.K50
open PySem PySem.Spec PyProof.Rows L2 DL
local macro_rules | `(tactic| get_elem_tactic_trivial) => `(tactic| first
  | with_reducible refine wS_seq ?_
  | with_reducible refine wS_set ?_
  | with_reducible refine wS_if ?_
  | with_reducible refine wS_ret ?_
  | with_reducible refine ret_st ?_
  | with_reducible refine ret_fr ?_
  | with_reducible refine wE_call ?_
  | with_reducible refine wA_cons ?_
  | with_reducible refine wA_nil ?_
  | with_reducible refine wE_evC ?_
  | ((with_reducible refine v_M ?_); refine vM_a rfl (by repeat (first | with_reducible exact set_0 | with_reducible apply set_s)) ?_)
  | ((with_reducible refine b_M ?_); refine bM_i rfl ?_)
  | ((with_reducible refine m_M ?_); first | refine mM_s rfl ?_ | refine mM_o rfl (by repeat (first | with_reducible exact set_0 | with_reducible apply set_s)) ?_)
  | ((with_reducible refine p_Ms ?_); refine pM_s rfl (by repeat (first | with_reducible exact set_0 | with_reducible apply set_s)) ?_)
  | ((with_reducible refine p_Mf ?_); refine pM_f rfl (by repeat (first | with_reducible exact set_0 | with_reducible apply set_s)) ?_)
  | with_reducible refine wE_ev1 ?_
  | with_reducible refine wE_ev2 ?_
  | with_reducible refine wE_and ?_
  | with_reducible refine wE_or ?_
  | with_reducible refine wE_not ?_
  | with_reducible refine wE_tru ?_
  | with_reducible refine wE_if ?_
  | with_reducible refine wE_tup ?_
  | with_reducible refine wE_lst ?_
  | with_reducible refine wE_neg ?_
  | with_reducible refine wE_ev3 ?_
  | with_reducible refine wE_callK2 ?_
  | with_reducible refine wE_sl ?_
  | with_reducible refine wE_LRg ?_
  | with_reducible refine wE_TRg ?_
  | with_reducible refine wE_lc ?_
  | with_reducible refine wV_none ?_
  | with_reducible refine wV_some ?_
  | with_reducible refine And.intro st_nb ?_
  | with_reducible refine And.intro fr_nb ?_
  | with_reducible refine wS_nil ?_
  | with_reducible refine wS_for ?_
  | with_reducible refine wA_it ?_
  | with_reducible refine wA_en ?_
  | with_reducible refine wA_R1 ?_
  | with_reducible refine wA_R2 ?_
  | ((with_reducible show itK _ _ _ _); first | refine it_seq st_nb rfl ?_ | refine it_seq fr_nb rfl ?_)
  | ((with_reducible show enK _ _ _); first | refine en_seq rfl ?_)
  | ((with_reducible show isBl _ _); first | refine isBl_i rfl ?_)
  | ((with_reducible show isInt _ _); first | refine isInt_i rfl ?_)
  | ((with_reducible show isTru _ _); first | refine isTru_i rfl ?_)
  | ((with_reducible show lenB _ _); first | refine lenB_i (by first | omega | (simp <;> omega)) ?_)
  | ((with_reducible show in62 _ _); first | refine in62_i (by first | omega | with_reducible assumption) (by first | omega | with_reducible assumption) ?_)
  | ((with_reducible show inM _ _); first | refine inM_i (by first | omega | with_reducible assumption) (by first | omega | with_reducible assumption) ?_)
  | ((with_reducible show onBl _ _ _); first | with_reducible refine onBl_t ?_ | with_reducible refine onBl_f ?_ | with_reducible refine onBl_nt ?_ | with_reducible refine onBl_nf ?_ | with_reducible refine onBl_dt (by first | omega | with_reducible assumption) ?_ | with_reducible refine onBl_df (by first | omega | with_reducible assumption) ?_ | with_reducible refine onBl_ndt (by first | omega | with_reducible assumption) ?_ | with_reducible refine onBl_ndf (by first | omega | with_reducible assumption) ?_)
  | ((with_reducible show wpO (gAdd _ _) _); first | refine wO_add rfl rfl ?_ | refine wO_catT rfl rfl (by first | omega | (simp <;> omega)) ?_ | refine wO_catL rfl rfl (by first | omega | (simp <;> omega)) ?_)
  | ((with_reducible show wpO (gSubI _ _) _); first | refine wO_sub rfl rfl ?_)
  | ((with_reducible show wpO (gMul _ _) _); first | refine wO_mul rfl rfl (by first | with_reducible assumption | rfl) ?_)
  | ((with_reducible show wpO (gFdiv _ _) _); first | refine wO_fdiv rfl rfl (by first | with_reducible assumption | rfl) ?_)
  | ((with_reducible show wpO (gMod _ _) _); first | refine wO_mod rfl rfl (by first | omega | with_reducible assumption) ?_)
  | ((with_reducible show wpO (gLt _ _) _); first | refine wO_lt rfl rfl ?_)
  | ((with_reducible show wpO (gLe _ _) _); first | refine wO_le rfl rfl ?_)
  | ((with_reducible show wpO (gGt _ _) _); first | refine wO_gt rfl rfl ?_)
  | ((with_reducible show wpO (gGe _ _) _); first | refine wO_ge rfl rfl ?_)
  | ((with_reducible show wpO (gEq _ _) _); first | refine wO_eqI rfl rfl ?_ | refine wO_eqB rfl rfl ?_)
  | ((with_reducible show wpO (gNe _ _) _); first | refine wO_neI rfl rfl ?_ | refine wO_neB rfl rfl ?_)
  | with_reducible refine wO_isN ?_
  | with_reducible refine wO_notN ?_
  | ((with_reducible show wpO (gIsB _ _) _); first | refine wO_isB rfl rfl ?_)
  | ((with_reducible show wpO (gLen _) _); first | refine wO_lenm rfl ?_ | refine wO_len rfl ?_)
  | ((with_reducible show wpO (gList _) _); first | refine wO_list rfl ?_)
  | ((with_reducible show wpO (gTuple _) _); first | refine wO_tuple rfl ?_)
  | ((with_reducible show wpO (gInt _) _); first | refine wO_int rfl ?_)
  | ((with_reducible show wpO (gAbs _) _); first | refine wO_abs rfl ?_)
  | ((with_reducible show wpO (gMax2 _ _) _); first | refine wO_max2 rfl rfl ?_)
  | ((with_reducible show wpO (gMin2 _ _) _); first | refine wO_min2 rfl rfl ?_)
  | ((with_reducible show wpO (gIx _ _) _); first | refine wO_ix rfl rfl (by first | omega | with_reducible assumption) ?_ | refine wO_ix_last rfl rfl (by first | with_reducible assumption | simp) ?_ | refine wO_ixi rfl rfl (by first | omega | with_reducible assumption) ?_ | refine wO_ixl rfl ?_)
  | ((with_reducible show wpO (gIsi _ _) _); first | refine wO_isi rfl ?_)
  | ((with_reducible show wpO (gSl _ _ _) _); first | refine wO_slL rfl ?_ | refine wO_slT rfl ?_)
  | ((with_reducible show wpO (gRev _) _); first | refine wO_revL rfl ?_ | refine wO_revT rfl ?_)
  | with_reducible refine wO_rep_non ?_
  | ((with_reducible show wpO (gRep0 _) _); first | refine wO_rep_bl rfl ?_)
  | with_reducible refine wO_all ?_
  | with_reducible refine wO_any ?_
  | with_reducible refine wS_parK ?_
  | with_reducible refine wS_par3 ?_
  | with_reducible refine wS_asg ?_
  | with_reducible refine wC_cons ?_
  | with_reducible refine wC_nil ?_
  | with_reducible refine wS_putI ?_
  | with_reducible refine wS_swapI ?_
  | with_reducible refine swap_i ?_
  | with_reducible refine wS_drop ?_
  | with_reducible refine wS_retN ?_
  | with_reducible refine wS_brk ?_
  | with_reducible refine wS_cnt ?_
  | ((with_reducible show par3K _ _ _ _ _ _); first | refine par3_st (lt_of_ble rfl) (lt_of_ble rfl) (lt_of_ble rfl) (by repeat (first | with_reducible exact set_0 | with_reducible apply set_s)) (by repeat (first | with_reducible exact set_0 | with_reducible apply set_s)) (by repeat (first | with_reducible exact set_0 | with_reducible apply set_s)) ?_)
  | ((with_reducible show wpC (tgTup _ _ _ _) _); first | refine wC_tup rfl rfl ?_)
  | ((with_reducible show wpC (tgUnl _ _ _ _) _); first | refine wC_unl rfl rfl ?_)
  | ((with_reducible refine t_M ?_); refine tM_i rfl (by repeat (first | with_reducible exact set_0 | with_reducible apply set_s)) ?_)
  | ((with_reducible show wpS (sApp _ _ _) _); first | refine wS_app rfl ?_)
  | ((with_reducible show appK _ _ _ _ _); first | refine app_st (by first | exact st_nb | exact fr_nb) rfl (by first | omega | (simp <;> omega)) (by repeat (first | with_reducible exact set_0 | with_reducible apply set_s)) ?_)
  | ((with_reducible show ownK _ _ _); first | refine own_i rfl ?_)
  | ((with_reducible show wpS (sAppPop _ _ _ _) _); first | refine wS_appPop rfl rfl ?_))
/-! ### None in a list of frames -/
theorem py_frD (o : Option T3) : ∃ q, D.py (frD o) = some q ∧ PyData.eqv q .none = o.isNone := by
  cases o with
  | none => exact ⟨_, py_non, rfl⟩
  | some t =>
    obtain ⟨q, h1, h2⟩ := good_tD 0 t
    refine ⟨q, h1, ?_⟩
    unfold tD D.py at h1
    revert h1
    cases pyL [nD t.1, nD t.2.1, nD t.2.2] with
    | none => intro h; cases h
    | some l => intro h; cases h; rfl
theorem in_non (os : List (Option T3)) : gIn .non (.lst (os.map frD)) = some (.st, .bl (os.any Option.isNone)) := by
  have hg := goodL (k := 1) (os.map frD) (fun d hd => by
    obtain ⟨o, _, rfl⟩ := List.mem_map.mp hd
    exact good_frD 0 o)
  obtain ⟨q, hq, hs⟩ := shaped_good (good_lst (k := 1) (ds := os.map frD) (fun d hd => by
    obtain ⟨o, _, rfl⟩ := List.mem_map.mp hd
    exact good_frD 0 o)) (by omega)
  obtain ⟨ps, h1, _⟩ := hg
  have hq' : D.py (.lst (os.map frD)) = some (.list ps) := by unfold D.py; rw [h1]; rfl
  rw [hq'] at hq
  cases hq
  unfold gIn inD
  dsimp only
  rw [hq', py_non]
  have hn : SeqAt.shaped .none = true := rfl
  dsimp only
  rw [hs, hn]
  have : ps.any (fun z => PyData.eqv z .none) = os.any Option.isNone := by
    clear hs hq'
    induction os generalizing ps with
    | nil =>
      unfold List.map pyL at h1
      cases h1
      rfl
    | cons o os ih =>
      obtain ⟨q, e1, e2⟩ := py_frD o
      rw [List.map_cons] at h1
      unfold pyL at h1
      rw [e1] at h1
      revert h1
      cases hp : pyL (os.map frD) with
      | none => intro h1; cases h1
      | some l =>
        intro h1
        cases h1
        rw [List.any_cons, List.any_cons, e2, ih l hp ?_]
        obtain ⟨l', h1, h2, h3, h4⟩ := goodL (k := 1) (os.map frD) (fun d hd => by
          obtain ⟨o, _, rfl⟩ := List.mem_map.mp hd
          exact good_frD 0 o)
        rw [hp] at h1
        cases h1
        exact ⟨h2, h3, h4⟩
  simp [this]
/-! ### _law_left -/
/-- the frames of what is told harmful -/
def hrm (fs : List Fg) : List (Option T3) := (fs.filter fun x => !x.2).map fun x => frP x.1
/-- a triple that allows none of these -/
def okL (hs : List T3) (t : T3) : Bool := (hs.filter fun h => decide (t.1 ≤ h.1) && (decide (t.2.1 ≤ h.2.1) && decide (t.2.2 ∣ h.2.2))).isEmpty
theorem it_sq {QL : QA} {b : Bool} {ds : List D} {c : Cfg} (q : QL ds c) : itK QL .st (sqD b ds) c := by
  exact it_seq st_nb (by cases b <;> rfl) q
def stL (d0 : D) (t0 : T3) (o : Bool) (hs : List T3) (L : List T3) (x6 x7 x8 : Option (Bool × D)) (W : Wd) : Cfg := ⟨[some (false, d0), some (false, nD t0.1), some (false, nD t0.2.1), some (false, nD t0.2.2), some (o, .lst (hs.map tD)), some (true, .lst (L.map tD)), x6, x7, x8, none, none, none], W⟩
theorem left_in (hs : List T3) : gIn .non (.lst (hs.map tD)) = some (.st, .bl false) := by
  have := in_non (hs.map some)
  rw [List.map_map] at this
  rw [show hs.map tD = hs.map (frD ∘ some) from rfl, this, List.any_map]
  simp
theorem mod_dvd (a n : Nat) : decide ((a : Int) % ((n : Nat) : Int) = 0) = decide (n ∣ a) := by
  rw [decide_eq_decide, ← Int.natCast_emod, Nat.dvd_iff_mod_eq_zero]
  omega
theorem dvd_of_mod {a n : Nat} (h : (a : Int) % ((n : Nat) : Int) = 0) : n ∣ a := of_decide_eq_true (by rw [← mod_dvd]; exact decide_eq_true h)
theorem mod_of_dvd {a n : Nat} (h : n ∣ a) : (a : Int) % ((n : Nat) : Int) = 0 := of_decide_eq_true (by rw [mod_dvd]; exact decide_eq_true h)
theorem law_left_eq (b : Bool) (fs : List Fg) (W : Wd) (h : FOk fs) (t0 : T3) (hb : widest none fs = some t0) (h0 : t0.1 ≤ 60 ∧ t0.2.1 ≤ 60 ∧ 0 < t0.2.2 ∧ t0.2.2 ≤ 60) (hs : List T3) (hh : hrm fs = hs.map some) :
    ∃ L : List T3, F__law_left [sqD b (fs.map fgD)] W = .ret true (.lst (L.map tD)) W ∧ ∀ t, t ∈ L ↔ leT t t0 ∧ okL hs t = true := by
  suffices hz : wpF (F__law_left [sqD b (fs.map fgD)] W) (fun fr d W' => fr = true ∧ W' = W ∧ ∃ L : List T3, d = .lst (L.map tD) ∧ ∀ t, t ∈ L ↔ leT t t0 ∧ okL hs t = true) (fun _ _ => False) by
    obtain ⟨fr, d, W', e, rfl, rfl, L, rfl, h2⟩ := wpF_ex hz
    exact ⟨L, e, h2⟩
  have hl := h.sz
  have hhl : hs.length ≤ 1000 := by
    have := congrArg List.length hh
    unfold hrm at this
    rw [List.length_map, List.length_map] at this
    have := List.length_filter_le (fun x : Fg => !x.2) fs
    omega
  have eh : (fs.filter fun x => !x.2).map (fun x => frD (frP x.1)) = hs.map tD := by
    have := congrArg (List.map frD) hh
    unfold hrm at this
    rw [List.map_map, List.map_map] at this
    exact this
  unfold F__law_left f__law_left
  refine wF_run rfl (by repeat (first | with_reducible exact st_0 | with_reducible apply st_d | with_reducible apply st_n)) ?_
  (repeat' get_elem_tactic_trivial)
  refine call_ret (law_bound_eq b fs W h) rfl ?_
  rw [hb]
  (repeat' get_elem_tactic_trivial)
  refine it_sq ?_
  refine lc_eq fgD (fun x => !x.2) (fun x => frD (frP x.1)) (by omega) (by repeat (first | with_reducible exact wipe_nil | with_reducible apply wipe_cons | with_reducible exact set_0 | with_reducible apply set_s)) (fun x hx => ?_) ?_
  · (repeat' get_elem_tactic_trivial)
    refine ⟨rfl, fun _ => (by (refine mrg_i ?_; repeat (first | exact mrg_nil | refine mrg_in rfl rfl ?_ | refine mrg_out rfl ?_))), fun _ => ?_⟩
    (repeat' get_elem_tactic_trivial)
    refine call_ret (law_frame_eq x.1 W (h.pm x hx)) rfl ?_
    (repeat' get_elem_tactic_trivial)
    exact ⟨rfl, (by (refine mrg_i ?_; repeat (first | exact mrg_nil | refine mrg_in rfl rfl ?_ | refine mrg_out rfl ?_)))⟩
  rw [eh]
  (repeat' get_elem_tactic_trivial)
  refine wO_some (left_in hs) ?_
  (repeat' get_elem_tactic_trivial)
  obtain ⟨h1, h2, h3, h4⟩ := h0
  refine for_rng0 _ (fun k c => ∃ o L x6 x7 x8, c = stL (sqD b (fs.map fgD)) t0 o hs L x6 x7 x8 W ∧ L.length ≤ k * 3660 ∧ ∀ t : T3, t ∈ L ↔ (t.1 < k ∧ t.2.1 ≤ t0.2.1 ∧ t.2.2 ∣ t0.2.2) ∧ okL hs t = true) ⟨_, [], none, none, none, rfl, by simp, by simp⟩ (fun k c hk hI => ?_) (fun c hI => ?_)
  · obtain ⟨o, L, x6, x7, x8, rfl, hL, hm⟩ := hI
    unfold stL
    (repeat' get_elem_tactic_trivial)
    refine for_rng0 _ (fun m c => ∃ o L x7 x8, c = stL (sqD b (fs.map fgD)) t0 o hs L (some (false, nD k)) x7 x8 W ∧ L.length ≤ k * 3660 + m * 60 ∧ ∀ t : T3, t ∈ L ↔ ((t.1 < k ∨ t.1 = k ∧ t.2.1 < m) ∧ t.2.1 ≤ t0.2.1 ∧ t.2.2 ∣ t0.2.2) ∧ okL hs t = true) ⟨_, L, x7, x8, rfl, by omega, by simpa using hm⟩ (fun m c hmk hI => ?_) (fun c hI => ?_)
    · obtain ⟨o, L, x7, x8, rfl, hL, hm⟩ := hI
      unfold stL
      (repeat' get_elem_tactic_trivial)
      refine for_rng1 _ (fun n c => ∃ o L x8, c = stL (sqD b (fs.map fgD)) t0 o hs L (some (false, nD k)) (some (false, nD m)) x8 W ∧ L.length ≤ k * 3660 + m * 60 + n ∧ ∀ t : T3, t ∈ L ↔ ((t.1 < k ∨ t.1 = k ∧ (t.2.1 < m ∨ t.2.1 = m ∧ t.2.2 ≤ n)) ∧ t.2.1 ≤ t0.2.1 ∧ t.2.2 ∣ t0.2.2) ∧ okL hs t = true) ⟨_, L, x8, rfl, by omega, fun t => ?_⟩ (fun n c hn hI => ?_) (fun c hI => ?_)
      · rw [hm t]
        have : t.2.2 ∣ t0.2.2 → 0 < t.2.2 := fun z => Nat.pos_of_dvd_of_pos z h3
        constructor
        · rintro ⟨⟨g1, g2, g3⟩, g4⟩
          exact ⟨⟨by omega, g2, g3⟩, g4⟩
        · rintro ⟨⟨g1, g2, g3⟩, g4⟩
          have := this g3
          exact ⟨⟨by omega, g2, g3⟩, g4⟩
      · obtain ⟨o, L, x8, rfl, hL, hm⟩ := hI
        unfold stL
        (repeat' get_elem_tactic_trivial)
        have hlast : ∀ (L : List T3) (o : Bool) (x8 : Option (Bool × D)), L.length ≤ k * 3660 + m * 60 + n → (∀ t : T3, t ∈ L ↔ ((t.1 < k ∨ t.1 = k ∧ (t.2.1 < m ∨ t.2.1 = m ∧ t.2.2 ≤ n)) ∧ t.2.1 ≤ t0.2.1 ∧ t.2.2 ∣ t0.2.2) ∧ okL hs t = true) → ¬ (n + 1 ∣ t0.2.2 ∧ okL hs (k, m, n + 1) = true) → ∀ t : T3, t ∈ L ↔ ((t.1 < k ∨ t.1 = k ∧ (t.2.1 < m ∨ t.2.1 = m ∧ t.2.2 ≤ n + 1)) ∧ t.2.1 ≤ t0.2.1 ∧ t.2.2 ∣ t0.2.2) ∧ okL hs t = true := fun L o x8 hL hm hno t => by
          rw [hm t]
          constructor
          · rintro ⟨⟨g1, g2, g3⟩, g4⟩
            exact ⟨⟨by omega, g2, g3⟩, g4⟩
          · rintro ⟨⟨g1, g2, g3⟩, g4⟩
            by_cases he : t.1 = k ∧ t.2.1 = m ∧ t.2.2 = n + 1
            · have : t = (k, m, n + 1) := Prod.ext he.1 (Prod.ext he.2.1 he.2.2)
              subst this
              exact absurd ⟨g3, g4⟩ hno
            · exact ⟨⟨by omega, g2, g3⟩, g4⟩
        refine onBl_d (fun hd => ?_) (fun hd => ?_)
        · (repeat' get_elem_tactic_trivial)
          refine lc_eq tD (fun u => decide (k ≤ u.1) && (decide (m ≤ u.2.1) && decide (n + 1 ∣ u.2.2))) tD (by omega) (by repeat (first | with_reducible exact wipe_nil | with_reducible apply wipe_cons | with_reducible exact set_0 | with_reducible apply set_s)) (fun u hu => ?_) ?_
          · (repeat' get_elem_tactic_trivial)
            refine onBl_d (fun g1 => ?_) (fun g1 => ?_)
            · (repeat' get_elem_tactic_trivial)
              refine onBl_d (fun g2 => ?_) (fun g2 => ?_)
              · (repeat' get_elem_tactic_trivial)
                refine ⟨by rw [mod_dvd, decide_eq_true (by omega : k ≤ u.1), decide_eq_true (by omega : m ≤ u.2.1)]; rfl, fun _ => (by (refine mrg_i ?_; repeat (first | exact mrg_nil | refine mrg_in rfl rfl ?_ | refine mrg_out rfl ?_))), fun _ => ?_⟩
                (repeat' get_elem_tactic_trivial)
                exact ⟨rfl, (by (refine mrg_i ?_; repeat (first | exact mrg_nil | refine mrg_in rfl rfl ?_ | refine mrg_out rfl ?_)))⟩
              · refine ⟨by rw [decide_eq_false (by omega : ¬ m ≤ u.2.1)]; simp, fun _ => (by (refine mrg_i ?_; repeat (first | exact mrg_nil | refine mrg_in rfl rfl ?_ | refine mrg_out rfl ?_))), fun z => ?_⟩
                rw [decide_eq_false (by omega : ¬ m ≤ u.2.1)] at z
                simp at z
            · refine ⟨by rw [decide_eq_false (by omega : ¬ k ≤ u.1)]; rfl, fun _ => (by (refine mrg_i ?_; repeat (first | exact mrg_nil | refine mrg_in rfl rfl ?_ | refine mrg_out rfl ?_))), fun z => ?_⟩
              rw [decide_eq_false (by omega : ¬ k ≤ u.1)] at z
              simp at z
          · (repeat' get_elem_tactic_trivial)
            refine wO_some (gEq_nilG (k := 1) (fun d hd => by
              obtain ⟨t, _, rfl⟩ := List.mem_map.mp hd
              exact good_tD 0 t) (by omega)) ?_
            rw [List.isEmpty_map]
            refine onBl_b (fun hk1 => ?_) (fun hk1 => ?_)
            · (repeat' get_elem_tactic_trivial)
              refine ⟨false, L ++ [(k, m, n + 1)], some (false, nD (n + 1)), by rw [List.map_append]; rfl, by rw [List.length_append]; simp; omega, fun t => ?_⟩
              rw [List.mem_append, List.mem_singleton, hm t]
              constructor
              · rintro (⟨⟨g1, g2, g3⟩, g4⟩ | rfl)
                · exact ⟨⟨by omega, g2, g3⟩, g4⟩
                · exact ⟨⟨.inr ⟨rfl, .inr ⟨rfl, Nat.le_refl _⟩⟩, by show m ≤ _; omega, dvd_of_mod hd⟩, hk1⟩
              · rintro ⟨⟨g1, g2, g3⟩, g4⟩
                by_cases he : t.1 = k ∧ t.2.1 = m ∧ t.2.2 = n + 1
                · exact .inr (Prod.ext he.1 (Prod.ext he.2.1 he.2.2))
                · exact .inl ⟨⟨by omega, g2, g3⟩, g4⟩
            · (repeat' get_elem_tactic_trivial)
              exact ⟨false, L, some (false, nD (n + 1)), rfl, by omega, hlast L o x8 hL hm (fun z => by
                have := z.2
                unfold okL at this
                rw [hk1] at this
                cases this)⟩
        · (repeat' get_elem_tactic_trivial)
          exact ⟨o, L, some (false, nD (n + 1)), rfl, by omega, hlast L o x8 hL hm (fun z => hd (mod_of_dvd z.1))⟩
      · obtain ⟨o, L, x8, rfl, hL, hm⟩ := hI
        refine ⟨o, L, _, x8, rfl, by omega, fun t => ?_⟩
        rw [hm t]
        constructor
        · rintro ⟨⟨g1, g2, g3⟩, g4⟩
          exact ⟨⟨by omega, g2, g3⟩, g4⟩
        · rintro ⟨⟨g1, g2, g3⟩, g4⟩
          have := Nat.le_of_dvd h3 g3
          exact ⟨⟨by omega, g2, g3⟩, g4⟩
    · obtain ⟨o, L, x7, x8, rfl, hL, hm⟩ := hI
      refine ⟨o, L, _, x7, x8, rfl, by omega, fun t => ?_⟩
      rw [hm t]
      constructor
      · rintro ⟨⟨g1, g2, g3⟩, g4⟩
        exact ⟨⟨by omega, g2, g3⟩, g4⟩
      · rintro ⟨⟨g1, g2, g3⟩, g4⟩
        exact ⟨⟨by omega, g2, g3⟩, g4⟩
  · obtain ⟨o, L, x6, x7, x8, rfl, hL, hm⟩ := hI
    unfold stL
    (repeat' get_elem_tactic_trivial)
    refine ⟨rfl, rfl, L, rfl, fun t => ?_⟩
    rw [hm t]
    unfold leT
    constructor
    · rintro ⟨⟨g1, g2, g3⟩, g4⟩
      exact ⟨⟨by omega, g2, g3⟩, g4⟩
    · rintro ⟨⟨g1, g2, g3⟩, g4⟩
      exact ⟨⟨by omega, g2, g3⟩, g4⟩
end DL.K50
namespace DL.K50
open PySem PySem.Spec PyProof.Rows L2 DL
local macro_rules | `(tactic| get_elem_tactic_trivial) => `(tactic| first
  | with_reducible refine wS_seq ?_
  | with_reducible refine wS_set ?_
  | with_reducible refine wS_if ?_
  | with_reducible refine wS_ret ?_
  | with_reducible refine ret_st ?_
  | with_reducible refine ret_fr ?_
  | with_reducible refine wE_call ?_
  | with_reducible refine wA_cons ?_
  | with_reducible refine wA_nil ?_
  | with_reducible refine wE_evC ?_
  | ((with_reducible refine v_M ?_); refine vM_a rfl (by repeat (first | with_reducible exact set_0 | with_reducible apply set_s)) ?_)
  | ((with_reducible refine b_M ?_); refine bM_i rfl ?_)
  | ((with_reducible refine m_M ?_); first | refine mM_s rfl ?_ | refine mM_o rfl (by repeat (first | with_reducible exact set_0 | with_reducible apply set_s)) ?_)
  | ((with_reducible refine p_Ms ?_); refine pM_s rfl (by repeat (first | with_reducible exact set_0 | with_reducible apply set_s)) ?_)
  | ((with_reducible refine p_Mf ?_); refine pM_f rfl (by repeat (first | with_reducible exact set_0 | with_reducible apply set_s)) ?_)
  | with_reducible refine wE_ev1 ?_
  | with_reducible refine wE_ev2 ?_
  | with_reducible refine wE_and ?_
  | with_reducible refine wE_or ?_
  | with_reducible refine wE_not ?_
  | with_reducible refine wE_tru ?_
  | with_reducible refine wE_if ?_
  | with_reducible refine wE_tup ?_
  | with_reducible refine wE_lst ?_
  | with_reducible refine wE_neg ?_
  | with_reducible refine wE_ev3 ?_
  | with_reducible refine wE_callK2 ?_
  | with_reducible refine wE_sl ?_
  | with_reducible refine wE_LRg ?_
  | with_reducible refine wE_TRg ?_
  | with_reducible refine wE_lc ?_
  | with_reducible refine wV_none ?_
  | with_reducible refine wV_some ?_
  | with_reducible refine And.intro st_nb ?_
  | with_reducible refine And.intro fr_nb ?_
  | with_reducible refine wS_nil ?_
  | with_reducible refine wS_for ?_
  | with_reducible refine wA_it ?_
  | with_reducible refine wA_en ?_
  | with_reducible refine wA_R1 ?_
  | with_reducible refine wA_R2 ?_
  | ((with_reducible show itK _ _ _ _); first | refine it_seq st_nb rfl ?_ | refine it_seq fr_nb rfl ?_)
  | ((with_reducible show enK _ _ _); first | refine en_seq rfl ?_)
  | ((with_reducible show isBl _ _); first | refine isBl_i rfl ?_)
  | ((with_reducible show isInt _ _); first | refine isInt_i rfl ?_)
  | ((with_reducible show isTru _ _); first | refine isTru_i rfl ?_)
  | ((with_reducible show lenB _ _); first | refine lenB_i (by first | omega | (simp <;> omega)) ?_)
  | ((with_reducible show in62 _ _); first | refine in62_i (by first | omega | with_reducible assumption) (by first | omega | with_reducible assumption) ?_)
  | ((with_reducible show inM _ _); first | refine inM_i (by first | omega | with_reducible assumption) (by first | omega | with_reducible assumption) ?_)
  | ((with_reducible show onBl _ _ _); first | with_reducible refine onBl_t ?_ | with_reducible refine onBl_f ?_ | with_reducible refine onBl_nt ?_ | with_reducible refine onBl_nf ?_ | with_reducible refine onBl_dt (by first | omega | with_reducible assumption) ?_ | with_reducible refine onBl_df (by first | omega | with_reducible assumption) ?_ | with_reducible refine onBl_ndt (by first | omega | with_reducible assumption) ?_ | with_reducible refine onBl_ndf (by first | omega | with_reducible assumption) ?_)
  | ((with_reducible show wpO (gAdd _ _) _); first | refine wO_add rfl rfl ?_ | refine wO_catT rfl rfl (by first | omega | (simp <;> omega)) ?_ | refine wO_catL rfl rfl (by first | omega | (simp <;> omega)) ?_)
  | ((with_reducible show wpO (gSubI _ _) _); first | refine wO_sub rfl rfl ?_)
  | ((with_reducible show wpO (gMul _ _) _); first | refine wO_mul rfl rfl (by first | with_reducible assumption | rfl) ?_)
  | ((with_reducible show wpO (gFdiv _ _) _); first | refine wO_fdiv rfl rfl (by first | with_reducible assumption | rfl) ?_)
  | ((with_reducible show wpO (gMod _ _) _); first | refine wO_mod rfl rfl (by first | omega | with_reducible assumption) ?_)
  | ((with_reducible show wpO (gLt _ _) _); first | refine wO_lt rfl rfl ?_)
  | ((with_reducible show wpO (gLe _ _) _); first | refine wO_le rfl rfl ?_)
  | ((with_reducible show wpO (gGt _ _) _); first | refine wO_gt rfl rfl ?_)
  | ((with_reducible show wpO (gGe _ _) _); first | refine wO_ge rfl rfl ?_)
  | ((with_reducible show wpO (gEq _ _) _); first | refine wO_eqI rfl rfl ?_ | refine wO_eqB rfl rfl ?_)
  | ((with_reducible show wpO (gNe _ _) _); first | refine wO_neI rfl rfl ?_ | refine wO_neB rfl rfl ?_)
  | with_reducible refine wO_isN ?_
  | with_reducible refine wO_notN ?_
  | ((with_reducible show wpO (gIsB _ _) _); first | refine wO_isB rfl rfl ?_)
  | ((with_reducible show wpO (gLen _) _); first | refine wO_lenm rfl ?_ | refine wO_len rfl ?_)
  | ((with_reducible show wpO (gList _) _); first | refine wO_list rfl ?_)
  | ((with_reducible show wpO (gTuple _) _); first | refine wO_tuple rfl ?_)
  | ((with_reducible show wpO (gInt _) _); first | refine wO_int rfl ?_)
  | ((with_reducible show wpO (gAbs _) _); first | refine wO_abs rfl ?_)
  | ((with_reducible show wpO (gMax2 _ _) _); first | refine wO_max2 rfl rfl ?_)
  | ((with_reducible show wpO (gMin2 _ _) _); first | refine wO_min2 rfl rfl ?_)
  | ((with_reducible show wpO (gIx _ _) _); first | refine wO_ix rfl rfl (by first | omega | with_reducible assumption) ?_ | refine wO_ix_last rfl rfl (by first | with_reducible assumption | simp) ?_ | refine wO_ixi rfl rfl (by first | omega | with_reducible assumption) ?_ | refine wO_ixl rfl ?_)
  | ((with_reducible show wpO (gIsi _ _) _); first | refine wO_isi rfl ?_)
  | ((with_reducible show wpO (gSl _ _ _) _); first | refine wO_slL rfl ?_ | refine wO_slT rfl ?_)
  | ((with_reducible show wpO (gRev _) _); first | refine wO_revL rfl ?_ | refine wO_revT rfl ?_)
  | with_reducible refine wO_rep_non ?_
  | ((with_reducible show wpO (gRep0 _) _); first | refine wO_rep_bl rfl ?_)
  | with_reducible refine wO_all ?_
  | with_reducible refine wO_any ?_
  | with_reducible refine wS_parK ?_
  | with_reducible refine wS_par3 ?_
  | with_reducible refine wS_asg ?_
  | with_reducible refine wC_cons ?_
  | with_reducible refine wC_nil ?_
  | with_reducible refine wS_putI ?_
  | with_reducible refine wS_swapI ?_
  | with_reducible refine swap_i ?_
  | with_reducible refine wS_drop ?_
  | with_reducible refine wS_retN ?_
  | with_reducible refine wS_brk ?_
  | with_reducible refine wS_cnt ?_
  | ((with_reducible show par3K _ _ _ _ _ _); first | refine par3_st (lt_of_ble rfl) (lt_of_ble rfl) (lt_of_ble rfl) (by repeat (first | with_reducible exact set_0 | with_reducible apply set_s)) (by repeat (first | with_reducible exact set_0 | with_reducible apply set_s)) (by repeat (first | with_reducible exact set_0 | with_reducible apply set_s)) ?_)
  | ((with_reducible show wpC (tgTup _ _ _ _) _); first | refine wC_tup rfl rfl ?_)
  | ((with_reducible show wpC (tgUnl _ _ _ _) _); first | refine wC_unl rfl rfl ?_)
  | ((with_reducible refine t_M ?_); refine tM_i rfl (by repeat (first | with_reducible exact set_0 | with_reducible apply set_s)) ?_)
  | ((with_reducible show wpS (sApp _ _ _) _); first | refine wS_app rfl ?_)
  | ((with_reducible show appK _ _ _ _ _); first | refine app_st (by first | exact st_nb | exact fr_nb) rfl (by first | omega | (simp <;> omega)) (by repeat (first | with_reducible exact set_0 | with_reducible apply set_s)) ?_)
  | ((with_reducible show ownK _ _ _); first | refine own_i rfl ?_)
  | ((with_reducible show wpS (sAppPop _ _ _ _) _); first | refine wS_appPop rfl rfl ?_))
/-! ### _law_possible -/
/-- findings as they are drawn: few, short -/
structure FS (fs : List Fg) : Prop where
  ok : FOk fs
  sm : ∀ x ∈ fs, x.1.length ≤ 60
theorem frP_small {p : List Nat} {t : T3} (h : frP p = some t) (hp : Pm p) (hl : p.length ≤ 60) : t.1 ≤ 60 ∧ t.2.1 ≤ 60 ∧ 0 < t.2.2 ∧ t.2.2 ≤ 60 := by
  have h3 := frP_pos h
  unfold frP at h
  split at h
  · cases h
  · rename_i m ms hm
    cases h
    have hm1 : m ∈ moved p := by rw [hm]; simp
    have hlt := moved_lt hm1
    refine ⟨by show m ≤ _; omega, by show p.length - 1 - _ ≤ _; omega, h3, ?_⟩
    have hd : gapG p (m :: ms) 0 ∣ dist p m := ((gapG_dvd p _ (m :: ms) 0).mp (Nat.dvd_refl _)).2 m (by simp)
    have h4 : 0 < dist p m := moved_dist (fun _ _ => trivial) m hm1
    have h5 := Nat.le_of_dvd h4 hd
    have h6 : dist p m ≤ 60 := by
      unfold dist
      have : p.getD m 0 < p.length := by
        rw [List.getD_eq_getElem?_getD, List.getElem?_eq_getElem hlt]
        exact hp.lt _ (List.getElem_mem hlt)
      omega
    exact Nat.le_trans h5 h6
theorem widest_small {fs : List Fg} {t0 : T3} (h : FS fs) (hw : widest none fs = some t0) : t0.1 ≤ 60 ∧ t0.2.1 ≤ 60 ∧ 0 < t0.2.2 ∧ t0.2.2 ≤ 60 := by
  have h3 := widest_pos fs (o := none) (fun t z => by cases z) t0 hw
  have key : ∃ x ∈ fs, ∃ t, frP x.1 = some t ∧ leT t0 t := by
    have h1 : ∀ (fs : List Fg) (o : Option T3), widest o fs = some t0 → o = none → ∃ x ∈ fs, x.2 = true ∧ ∃ t, frP x.1 = some t := by
      intro fs
      induction fs with
      | nil => intro o h1 h2; subst h2; cases h1
      | cons x fs ih =>
        intro o h1 h2
        subst h2
        unfold widest at h1
        cases hx : x.2 with
        | false =>
          have hw : widen none x = none := by unfold widen; rw [hx]
          rw [hw] at h1
          obtain ⟨y, hy, z⟩ := ih none h1 rfl
          exact ⟨y, List.mem_cons_of_mem _ hy, z⟩
        | true =>
          cases hf : frP x.1 with
          | some t => exact ⟨x, List.mem_cons_self, hx, t, hf⟩
          | none =>
            have hw : widen none x = none := by unfold widen; rw [hx, hf]
            rw [hw] at h1
            obtain ⟨y, hy, z⟩ := ih none h1 rfl
            exact ⟨y, List.mem_cons_of_mem _ hy, z⟩
    obtain ⟨x, hx, h2, t, h3⟩ := h1 fs none hw rfl
    obtain ⟨v, h4, h5⟩ := widest_le fs (o := none) hx h2 h3
    rw [hw] at h4
    cases h4
    exact ⟨x, hx, t, h3, h5⟩
  obtain ⟨x, hx, t, h4, h5⟩ := key
  obtain ⟨g1, g2, g3, g4⟩ := frP_small h4 (h.ok.pm x hx) (h.sm x hx)
  exact ⟨Nat.le_trans h5.1 g1, Nat.le_trans h5.2.1 g2, h3, Nat.le_trans (Nat.le_of_dvd g3 h5.2.2) g4⟩
theorem okL_iff {hs : List T3} {t : T3} : okL hs t = true ↔ ∀ u ∈ hs, ¬ leT t u := by
  unfold okL leT
  rw [List.isEmpty_iff, List.filter_eq_nil_iff]
  simp
theorem hrm_mem {fs : List Fg} {hs : List T3} (hh : hrm fs = hs.map some) (u : T3) : u ∈ hs ↔ ∃ x ∈ fs, x.2 = false ∧ frP x.1 = some u := by
  have h1 : u ∈ hs ↔ some u ∈ hrm fs := by rw [hh]; simp
  rw [h1]
  unfold hrm
  simp only [List.mem_map, List.mem_filter]
  constructor
  · rintro ⟨x, ⟨h1, h2⟩, h3⟩
    exact ⟨x, h1, by simpa using h2, h3⟩
  · rintro ⟨x, h1, h2, h3⟩
    exact ⟨x, ⟨h1, by simp [h2]⟩, h3⟩
/-- where every harmful one has a frame, the widest tells -/
theorem poss_some {fs : List Fg} {t0 : T3} {hs : List T3} (hw : widest none fs = some t0) (hh : hrm fs = hs.map some) : possF fs = true ↔ ∃ t, leT t t0 ∧ okL hs t = true := by
  rw [possF_iff]
  constructor
  · rintro ⟨o, ho⟩
    have hs1 : ∀ x ∈ fs, x.2 = true → ∀ t, frP x.1 = some t → ∃ s, o = some s ∧ leT s t := by
      intro x hx h2 t h3
      have h4 := ho x hx
      rw [h2, h3] at h4
      cases o with
      | none => simp [allowsO] at h4
      | some s => exact ⟨s, rfl, allows_leT.mp h4⟩
    have h1 : ∃ s, o = some s := by
      have key : ∀ (fs : List Fg), (∀ x ∈ fs, x.2 = true → ∀ t, frP x.1 = some t → ∃ s, o = some s ∧ leT s t) → (∀ s, o ≠ some s) → widest none fs = none := by
        intro fs
        induction fs with
        | nil => exact fun _ _ => rfl
        | cons x fs ih =>
          intro h1 h2
          have hr := ih (fun y hy => h1 y (List.mem_cons_of_mem _ hy)) h2
          have hw : widen none x = none := by
            unfold widen
            cases hx : x.2 with
            | false => rfl
            | true =>
              cases hf : frP x.1 with
              | none => rfl
              | some t =>
                obtain ⟨s, e, _⟩ := h1 x List.mem_cons_self hx t hf
                exact absurd e (h2 s)
          unfold widest
          rw [hw, hr]
      cases o with
      | some s => exact ⟨s, rfl⟩
      | none =>
        have := key fs hs1 (fun s z => by cases z)
        rw [hw] at this
        cases this
    obtain ⟨s, rfl⟩ := h1
    refine ⟨s, widest_ge s fs (o := none) (fun x hx h2 t h3 => ?_) (fun u z => by cases z) t0 hw, okL_iff.mpr fun u hu => ?_⟩
    · obtain ⟨s', e, h4⟩ := hs1 x hx h2 t h3
      cases e
      exact h4
    · obtain ⟨x, hx, h2, h3⟩ := (hrm_mem hh u).mp hu
      have := ho x hx
      rw [h2, h3] at this
      intro z
      rw [allows_leT.mpr z] at this
      cases this
  · rintro ⟨t, h1, h2⟩
    refine ⟨some t, fun x hx => ?_⟩
    have h2 := okL_iff.mp h2
    cases hx2 : x.2 with
    | true =>
      cases hf : frP x.1 with
      | none => rfl
      | some u =>
        obtain ⟨v, e, h4⟩ := widest_le fs (o := none) hx hx2 hf
        rw [hw] at e
        cases e
        exact allows_leT.mpr (h1.trans h4)
    | false =>
      cases hf : frP x.1 with
      | none =>
        have : (none : Option T3) ∈ hrm fs := by
          unfold hrm
          exact List.mem_map.mpr ⟨x, List.mem_filter.mpr ⟨hx, by simp [hx2]⟩, hf⟩
        rw [hh] at this
        simp at this
      | some u =>
        have := h2 u ((hrm_mem hh u).mpr ⟨x, hx, hx2, hf⟩)
        cases hb : allowsO (some t) (some u) with
        | false => rfl
        | true => exact absurd (allows_leT.mp hb) this
theorem poss_none {fs : List Fg} {hs : List T3} (hw : widest none fs = none) (hh : hrm fs = hs.map some) : possF fs = true := by
  refine possF_iff.mpr ⟨none, fun x hx => ?_⟩
  cases hx2 : x.2 with
  | true =>
    cases hf : frP x.1 with
    | none => rfl
    | some u =>
      obtain ⟨v, e, h4⟩ := widest_le fs (o := none) hx hx2 hf
      rw [hw] at e
      cases e
  | false =>
    cases hf : frP x.1 with
    | none =>
      have : (none : Option T3) ∈ hrm fs := by
        unfold hrm
        exact List.mem_map.mpr ⟨x, List.mem_filter.mpr ⟨hx, by simp [hx2]⟩, hf⟩
      rw [hh] at this
      simp at this
    | some u => rfl
theorem poss_bad {fs : List Fg} {x : Fg} (hx : x ∈ fs) (h2 : x.2 = false) (hf : frP x.1 = none) : possF fs = false := by
  cases hp : possF fs with
  | false => rfl
  | true =>
    obtain ⟨o, ho⟩ := possF_iff.mp hp
    have := ho x hx
    rw [h2, hf] at this
    cases this
theorem all_some {α : Type} (os : List (Option α)) (h : none ∉ os) : ∃ xs : List α, os = xs.map some := by
  induction os with
  | nil => exact ⟨[], rfl⟩
  | cons o os ih =>
    obtain ⟨xs, e⟩ := ih (fun z => h (List.mem_cons_of_mem _ z))
    cases o with
    | none => exact absurd List.mem_cons_self h
    | some x => exact ⟨x :: xs, by rw [e]; rfl⟩
/-- those told harmful that move nothing -/
def idle (fs : List Fg) : List (List Nat) := (fs.filter fun x => !x.2 && (frP x.1).isNone).map fun x => x.1
theorem good_pDs (k : Nat) (ps : List (List Nat)) : ∀ d ∈ ps.map pD, Good (k + 1) d := fun d hd => by
  obtain ⟨t, _, rfl⟩ := List.mem_map.mp hd
  exact good_pD k t
theorem good_tDs (k : Nat) (ps : List T3) : ∀ d ∈ ps.map tD, Good (k + 1) d := fun d hd => by
  obtain ⟨t, _, rfl⟩ := List.mem_map.mp hd
  exact good_tD k t
theorem law_possible_eq (b : Bool) (fs : List Fg) (W : Wd) (h : FS fs) : F__law_possible [sqD b (fs.map fgD)] W = .ret false (.bl (possF fs)) W := by
  refine ret_of ?_
  have hl := h.ok.sz
  unfold F__law_possible f__law_possible
  refine wF_run rfl (by repeat (first | with_reducible exact st_0 | with_reducible apply st_d | with_reducible apply st_n)) ?_
  (repeat' get_elem_tactic_trivial)
  refine it_sq ?_
  refine lc_eq fgD (fun x => !x.2 && (frP x.1).isNone) (fun x => pD x.1) (by omega) (by repeat (first | with_reducible exact wipe_nil | with_reducible apply wipe_cons | with_reducible exact set_0 | with_reducible apply set_s)) (fun x hx => ?_) ?_
  · (repeat' get_elem_tactic_trivial)
    refine onBl_n (fun g => ?_) (fun g => ?_)
    · (repeat' get_elem_tactic_trivial)
      refine call_ret (law_frame_eq x.1 W (h.ok.pm x hx)) rfl ?_
      (repeat' get_elem_tactic_trivial)
      refine ⟨by rw [g]; cases frP x.1 <;> rfl, fun _ => (by (refine mrg_i ?_; repeat (first | exact mrg_nil | refine mrg_in rfl rfl ?_ | refine mrg_out rfl ?_))), fun _ => ?_⟩
      (repeat' get_elem_tactic_trivial)
      exact ⟨rfl, (by (refine mrg_i ?_; repeat (first | exact mrg_nil | refine mrg_in rfl rfl ?_ | refine mrg_out rfl ?_)))⟩
    · refine ⟨by rw [g]; rfl, fun _ => (by (refine mrg_i ?_; repeat (first | exact mrg_nil | refine mrg_in rfl rfl ?_ | refine mrg_out rfl ?_))), fun z => ?_⟩
      rw [g] at z
      cases z
  have e : (fs.filter fun x => !x.2 && (frP x.1).isNone).map (fun x => pD x.1) = (idle fs).map pD := by
    unfold idle
    rw [List.map_map]
    rfl
  rw [e]
  (repeat' get_elem_tactic_trivial)
  refine wO_some (gNe_nilG (k := 1) (good_pDs 0 _) (by omega)) ?_
  rw [List.isEmpty_map]
  refine onBl_n (fun g => ?_) (fun g => ?_)
  · (repeat' get_elem_tactic_trivial)
    refine ⟨rfl, ?_, rfl⟩
    have : ∃ x ∈ fs, x.2 = false ∧ frP x.1 = none := by
      cases hi : idle fs with
      | nil => rw [hi] at g; cases g
      | cons q qs =>
        have : q ∈ idle fs := by rw [hi]; simp
        unfold idle at this
        obtain ⟨x, hx, _⟩ := List.mem_map.mp this
        have h2 := List.mem_filter.mp hx
        exact ⟨x, h2.1, by simpa using h2.2⟩
    obtain ⟨x, hx, h2, h3⟩ := this
    rw [poss_bad hx h2 h3]
  · (repeat' get_elem_tactic_trivial)
    obtain ⟨hs, hh⟩ := all_some (hrm fs) (fun z => by
      unfold hrm at z
      obtain ⟨x, hx, h3⟩ := List.mem_map.mp z
      have h2 := List.mem_filter.mp hx
      have : x.1 ∈ idle fs := List.mem_map.mpr ⟨x, List.mem_filter.mpr ⟨h2.1, by simp [h3]; simpa using h2.2⟩, rfl⟩
      rw [List.isEmpty_iff.mp g] at this
      simp at this)
    refine call_ret (law_bound_eq b fs W h.ok) rfl ?_
    (repeat' get_elem_tactic_trivial)
    cases hw : widest none fs with
    | none =>
      refine onBl_t ?_
      (repeat' get_elem_tactic_trivial)
      exact ⟨rfl, by rw [poss_none hw hh], rfl⟩
    | some t0 =>
      refine onBl_f ?_
      (repeat' get_elem_tactic_trivial)
      obtain ⟨L, e1, e2⟩ := law_left_eq b fs W h.ok t0 hw (widest_small h hw) hs hh
      refine call_fr e1 rfl ?_
      (repeat' get_elem_tactic_trivial)
      refine wO_some (gNe_nilG (k := 1) (good_tDs 0 _) (by omega)) ?_
      rw [List.isEmpty_map]
      (repeat' get_elem_tactic_trivial)
      refine ⟨rfl, ?_, rfl⟩
      have e3 := poss_some hw hh
      cases hp : possF fs with
      | true =>
        obtain ⟨t, ht⟩ := e3.mp hp
        have := (e2 t).mpr ht
        cases hL : L with
        | nil => rw [hL] at this; simp at this
        | cons a b => rfl
      | false =>
        cases hL : L with
        | nil => rfl
        | cons a b =>
          have := e3.mpr ⟨a, (e2 a).mp (by rw [hL]; simp)⟩
          rw [hp] at this
          cases this
end DL.K50
namespace DL.K50
open PySem PySem.Spec PyProof.Rows L2 DL
local macro_rules | `(tactic| get_elem_tactic_trivial) => `(tactic| first
  | with_reducible refine wS_seq ?_
  | with_reducible refine wS_set ?_
  | with_reducible refine wS_if ?_
  | with_reducible refine wS_ret ?_
  | with_reducible refine ret_st ?_
  | with_reducible refine ret_fr ?_
  | with_reducible refine wE_call ?_
  | with_reducible refine wA_cons ?_
  | with_reducible refine wA_nil ?_
  | with_reducible refine wE_evC ?_
  | ((with_reducible refine v_M ?_); refine vM_a rfl (by repeat (first | with_reducible exact set_0 | with_reducible apply set_s)) ?_)
  | ((with_reducible refine b_M ?_); refine bM_i rfl ?_)
  | ((with_reducible refine m_M ?_); first | refine mM_s rfl ?_ | refine mM_o rfl (by repeat (first | with_reducible exact set_0 | with_reducible apply set_s)) ?_)
  | ((with_reducible refine p_Ms ?_); refine pM_s rfl (by repeat (first | with_reducible exact set_0 | with_reducible apply set_s)) ?_)
  | ((with_reducible refine p_Mf ?_); refine pM_f rfl (by repeat (first | with_reducible exact set_0 | with_reducible apply set_s)) ?_)
  | with_reducible refine wE_ev1 ?_
  | with_reducible refine wE_ev2 ?_
  | with_reducible refine wE_and ?_
  | with_reducible refine wE_or ?_
  | with_reducible refine wE_not ?_
  | with_reducible refine wE_tru ?_
  | with_reducible refine wE_if ?_
  | with_reducible refine wE_tup ?_
  | with_reducible refine wE_lst ?_
  | with_reducible refine wE_neg ?_
  | with_reducible refine wE_ev3 ?_
  | with_reducible refine wE_callK2 ?_
  | with_reducible refine wE_sl ?_
  | with_reducible refine wE_LRg ?_
  | with_reducible refine wE_TRg ?_
  | with_reducible refine wE_lc ?_
  | with_reducible refine wV_none ?_
  | with_reducible refine wV_some ?_
  | with_reducible refine And.intro st_nb ?_
  | with_reducible refine And.intro fr_nb ?_
  | with_reducible refine wS_nil ?_
  | with_reducible refine wS_for ?_
  | with_reducible refine wA_it ?_
  | with_reducible refine wA_en ?_
  | with_reducible refine wA_R1 ?_
  | with_reducible refine wA_R2 ?_
  | ((with_reducible show itK _ _ _ _); first | refine it_seq st_nb rfl ?_ | refine it_seq fr_nb rfl ?_)
  | ((with_reducible show enK _ _ _); first | refine en_seq rfl ?_)
  | ((with_reducible show isBl _ _); first | refine isBl_i rfl ?_)
  | ((with_reducible show isInt _ _); first | refine isInt_i rfl ?_)
  | ((with_reducible show isTru _ _); first | refine isTru_i rfl ?_)
  | ((with_reducible show lenB _ _); first | refine lenB_i (by first | omega | (simp <;> omega)) ?_ | fail)
  | ((with_reducible show in62 _ _); first | refine in62_i (by first | omega | with_reducible assumption) (by first | omega | with_reducible assumption) ?_ | fail)
  | ((with_reducible show inM _ _); first | refine inM_i (by first | omega | with_reducible assumption) (by first | omega | with_reducible assumption) ?_ | fail)
  | ((with_reducible show onBl _ _ _); first | with_reducible refine onBl_t ?_ | with_reducible refine onBl_f ?_ | with_reducible refine onBl_nt ?_ | with_reducible refine onBl_nf ?_ | with_reducible refine onBl_dt (by first | omega | with_reducible assumption) ?_ | with_reducible refine onBl_df (by first | omega | with_reducible assumption) ?_ | with_reducible refine onBl_ndt (by first | omega | with_reducible assumption) ?_ | with_reducible refine onBl_ndf (by first | omega | with_reducible assumption) ?_ | fail)
  | ((with_reducible show wpO (gAdd _ _) _); first | refine wO_add rfl rfl ?_ | refine wO_catT rfl rfl (by first | omega | (simp <;> omega)) ?_ | refine wO_catL rfl rfl (by first | omega | (simp <;> omega)) ?_ | refine wO_catT rfl rfl ?_ ?_ | refine wO_catL rfl rfl ?_ ?_)
  | ((with_reducible show wpO (gSubI _ _) _); first | refine wO_sub rfl rfl ?_)
  | ((with_reducible show wpO (gMul _ _) _); first | refine wO_mul rfl rfl (mulOk_small (by omega)) ?_ | refine wO_mul rfl rfl (by first | with_reducible assumption | rfl) ?_ | fail)
  | ((with_reducible show wpO (gFdiv _ _) _); first | refine wO_fdiv rfl rfl (fdivOk_small (by omega)) ?_ | refine wO_fdiv rfl rfl (by first | with_reducible assumption | rfl) ?_ | fail)
  | ((with_reducible show wpO (gMod _ _) _); first | refine wO_mod rfl rfl (by first | omega | with_reducible assumption) ?_ | fail)
  | ((with_reducible show wpO (gLt _ _) _); first | refine wO_lt rfl rfl ?_)
  | ((with_reducible show wpO (gLe _ _) _); first | refine wO_le rfl rfl ?_)
  | ((with_reducible show wpO (gGt _ _) _); first | refine wO_gt rfl rfl ?_)
  | ((with_reducible show wpO (gGe _ _) _); first | refine wO_ge rfl rfl ?_)
  | ((with_reducible show wpO (gEq _ _) _); first | refine wO_eqI rfl rfl ?_ | refine wO_eqB rfl rfl ?_)
  | ((with_reducible show wpO (gNe _ _) _); first | refine wO_neI rfl rfl ?_ | refine wO_neB rfl rfl ?_)
  | with_reducible refine wO_isN ?_
  | with_reducible refine wO_notN ?_
  | ((with_reducible show wpO (gIsB _ _) _); first | refine wO_isB rfl rfl ?_)
  | ((with_reducible show wpO (gLen _) _); first | refine wO_lenm rfl ?_ | refine wO_len rfl ?_)
  | ((with_reducible show wpO (gList _) _); first | refine wO_list rfl ?_)
  | ((with_reducible show wpO (gTuple _) _); first | refine wO_tuple rfl ?_)
  | ((with_reducible show wpO (gInt _) _); first | refine wO_int rfl ?_)
  | ((with_reducible show wpO (gAbs _) _); first | refine wO_abs rfl ?_)
  | ((with_reducible show wpO (gMax2 _ _) _); first | refine wO_max2 rfl rfl ?_)
  | ((with_reducible show wpO (gMin2 _ _) _); first | refine wO_min2 rfl rfl ?_)
  | ((with_reducible show wpO (gIx _ _) _); first | refine wO_ix rfl rfl (by first | omega | with_reducible assumption) ?_ | refine wO_ix_last rfl rfl (by first | with_reducible assumption | simp) ?_ | refine wO_ixi rfl rfl (by first | omega | with_reducible assumption) ?_ | refine wO_ixl rfl ?_)
  | ((with_reducible show wpO (gIsi _ _) _); first | refine wO_isi rfl ?_)
  | ((with_reducible show wpO (gSl _ _ _) _); first | refine wO_slL rfl ?_ | refine wO_slT rfl ?_)
  | ((with_reducible show wpO (gRev _) _); first | refine wO_revL rfl ?_ | refine wO_revT rfl ?_)
  | with_reducible refine wO_rep_non ?_
  | ((with_reducible show wpO (gRep0 _) _); first | refine wO_rep_bl rfl ?_)
  | with_reducible refine wO_all ?_
  | with_reducible refine wO_any ?_
  | with_reducible refine wS_parK ?_
  | with_reducible refine wS_par3 ?_
  | with_reducible refine wS_asg ?_
  | with_reducible refine wC_cons ?_
  | with_reducible refine wC_nil ?_
  | with_reducible refine wS_putI ?_
  | with_reducible refine wS_swapI ?_
  | with_reducible refine swap_i ?_
  | with_reducible refine wS_drop ?_
  | with_reducible refine wS_retN ?_
  | with_reducible refine wS_brk ?_
  | with_reducible refine wS_cnt ?_
  | ((with_reducible show par3K _ _ _ _ _ _); first | refine par3_st (lt_of_ble rfl) (lt_of_ble rfl) (lt_of_ble rfl) (by repeat (first | with_reducible exact set_0 | with_reducible apply set_s)) (by repeat (first | with_reducible exact set_0 | with_reducible apply set_s)) (by repeat (first | with_reducible exact set_0 | with_reducible apply set_s)) ?_)
  | ((with_reducible show wpC (tgTup _ _ _ _) _); first | refine wC_tup rfl rfl ?_)
  | ((with_reducible show wpC (tgUnl _ _ _ _) _); first | refine wC_unl rfl rfl ?_)
  | ((with_reducible refine t_M ?_); refine tM_i rfl (by repeat (first | with_reducible exact set_0 | with_reducible apply set_s)) ?_)
  | ((with_reducible show wpS (sApp _ _ _) _); first | refine wS_app rfl ?_)
  | ((with_reducible show appK _ _ _ _ _); first | refine app_st (by first | exact st_nb | exact fr_nb) rfl (by first | omega | (simp <;> omega)) (by repeat (first | with_reducible exact set_0 | with_reducible apply set_s)) ?_ | fail)
  | ((with_reducible show ownK _ _ _); first | refine own_i rfl ?_)
  | ((with_reducible show wpS (sAppPop _ _ _ _) _); first | refine wS_appPop rfl rfl ?_))
/-! ### clash -/
instance : Inhabited Fg := ⟨([], false)⟩
/-- some of the findings -/
def sub (fs : List Fg) (xs : List Nat) : List Fg := xs.map fun i => fs.getD i default
theorem getD_mem {α : Type} [Inhabited α] {fs : List α} {i : Nat} (h : i < fs.length) : fs.getD i default ∈ fs := by
  rw [List.getD_eq_getElem?_getD, List.getElem?_eq_getElem h]
  exact List.getElem_mem h
theorem sub_mem {fs : List Fg} {xs : List Nat} (h : ∀ i ∈ xs, i < fs.length) : ∀ x ∈ sub fs xs, x ∈ fs := fun x hx => by
  obtain ⟨i, hi, rfl⟩ := List.mem_map.mp hx
  exact getD_mem (h i hi)
theorem sub_ok {fs : List Fg} {xs : List Nat} (hf : FS fs) (h : ∀ i ∈ xs, i < fs.length) (hl : xs.length ≤ 1000) : FS (sub fs xs) :=
  ⟨⟨fun x hx => hf.ok.pm x (sub_mem h x hx), by unfold sub; rw [List.length_map]; exact hl⟩, fun x hx => hf.sm x (sub_mem h x hx)⟩
theorem sub_D (fs : List Fg) (xs : List Nat) : xs.map (fun i => fgD (fs.getD i default)) = (sub fs xs).map fgD := by
  unfold sub
  rw [List.map_map]
  rfl
theorem sub_le {fs : List Fg} {xs ys : List Nat} (h : ∀ i ∈ ys, i ∈ xs) (hp : possF (sub fs xs) = true) : possF (sub fs ys) = true := possF_mono hp fun x hx => by
  obtain ⟨i, hi, rfl⟩ := List.mem_map.mp hx
  exact List.mem_map.mpr ⟨i, h i hi, rfl⟩
theorem sub_all {fs : List Fg} : sub fs (List.range fs.length) = fs := by
  unfold sub
  apply List.ext_getElem?
  intro i
  rw [List.getElem?_map]
  by_cases h : i < fs.length
  · rw [List.getElem?_range h, List.getElem?_eq_getElem h]
    simp [h]
  · rw [List.getElem?_eq_none (by simp; omega), List.getElem?_eq_none (by omega)]
    rfl
/-- all but one -/
def but (a : Nat) (xs : List Nat) : List Nat := xs.filter fun i => !decide (i = a)
theorem but_mem {a i : Nat} {xs : List Nat} : i ∈ but a xs ↔ i ∈ xs ∧ i ≠ a := by unfold but; simp
/-- a clash, told by places -/
structure Cl (fs : List Fg) (xs : List Nat) : Prop where
  up : xs.Pairwise (· < ·)
  lt : ∀ i ∈ xs, i < fs.length
  no : possF (sub fs xs) = false
  ev : ∀ a ∈ xs, possF (sub fs (but a xs)) = true
theorem up_lenF : ∀ {n lo : Nat} {xs : List Nat}, xs.Pairwise (· < ·) → (∀ i ∈ xs, lo ≤ i ∧ i < n) → xs.length ≤ n - lo
  | n, lo, [], _, _ => Nat.zero_le _
  | n, lo, x :: xs, h1, h2 => by
    rw [List.pairwise_cons] at h1
    have hx := h2 x List.mem_cons_self
    have := up_lenF (n := n) (lo := x + 1) h1.2 fun i hi => ⟨h1.1 i hi, (h2 i (List.mem_cons_of_mem _ hi)).2⟩
    rw [List.length_cons]
    omega
theorem up_len {n : Nat} {xs : List Nat} (h1 : xs.Pairwise (· < ·)) (h2 : ∀ i ∈ xs, i < n) : xs.length ≤ n := up_lenF (lo := 0) h1 fun i hi => ⟨Nat.zero_le _, h2 i hi⟩
theorem clash_ex (fs : List Fg) (W : Wd) (h : FS fs) : (possF fs = true ∧ F_clash [.lst (fs.map fgD)] W = .ret false .non W) ∨ (possF fs = false ∧ ∃ xs, Cl fs xs ∧ F_clash [.lst (fs.map fgD)] W = .ret false (.tup (xs.map nD)) W) := by
  have hl := h.ok.sz
  cases hp : possF fs with
  | true =>
    refine .inl ⟨rfl, ret_of ?_⟩
    unfold F_clash f_clash
    refine wF_run rfl (by repeat (first | with_reducible exact st_0 | with_reducible apply st_d | with_reducible apply st_n)) ?_
    (repeat' get_elem_tactic_trivial)
    refine call_ret (checked_findings_eq true fs W h.ok) rfl ?_
    (repeat' get_elem_tactic_trivial)
    refine call_ret (is_possible_eq false fs W h.ok) rfl ?_
    rw [hp]
    (repeat' get_elem_tactic_trivial)
    exact ⟨rfl, rfl, rfl⟩
  | false =>
    refine .inr ⟨rfl, ?_⟩
    suffices hz : wpF (F_clash [.lst (fs.map fgD)] W) (fun fr d W' => fr = false ∧ W' = W ∧ ∃ xs : List Nat, d = .tup (xs.map nD) ∧ Cl fs xs) (fun _ _ => False) by
      obtain ⟨fr, d, W', e, rfl, rfl, xs, rfl, h2⟩ := wpF_ex hz
      exact ⟨xs, h2, e⟩
    unfold F_clash f_clash
    refine wF_run rfl (by repeat (first | with_reducible exact st_0 | with_reducible apply st_d | with_reducible apply st_n)) ?_
    (repeat' get_elem_tactic_trivial)
    refine call_ret (checked_findings_eq true fs W h.ok) rfl ?_
    (repeat' get_elem_tactic_trivial)
    refine call_ret (is_possible_eq false fs W h.ok) rfl ?_
    rw [hp]
    (repeat' get_elem_tactic_trivial)
    rw [Int.toNat_natCast, rngD_0]
    refine for_inv nD (List.range fs.length) (fun done rest c => ∃ (o2 : Bool) (xs : List Nat) (x3 x4 : Option (Bool × D)), c = ⟨[some (false, .lst (fs.map fgD)), some (false, .tup (fs.map fgD)), some (o2, .lst (xs.map nD)), x3, x4, none], W⟩ ∧ xs.Pairwise (· < ·) ∧ (∀ i ∈ xs, i < fs.length) ∧ possF (sub fs xs) = false ∧ ∀ a ∈ xs, a < done.length → possF (sub fs (but a xs)) = true) ⟨true, List.range fs.length, none, none, rfl, List.pairwise_lt_range, fun i hi => List.mem_range.mp hi, by rw [sub_all]; exact hp, fun a _ z => absurd z (Nat.not_lt_zero _)⟩ (fun done k rest c hx hI => ?_) (fun c hI => ?_)
    · obtain ⟨o2, xs, x3, x4, rfl, g1, g2, g3, g4⟩ := hI
      have hk : k = done.length ∧ k < fs.length := by
        have h1 : (List.range fs.length)[done.length]? = some k := by rw [hx]; simp
        have h2 : done.length < fs.length := by
          have := congrArg List.length hx
          simp at this
          omega
        rw [List.getElem?_range h2] at h1
        have := Option.some.inj h1
        omega
      have hxl := up_len g1 g2
      have hbl : (but k xs).length ≤ 1000 := Nat.le_trans (List.length_filter_le _ _) (by omega)
      have hbm : ∀ i ∈ but k xs, i < fs.length := fun i hi => g2 i (but_mem.mp hi).1
      (repeat' get_elem_tactic_trivial)
      refine lc_eq nD (fun i => !decide (i = k)) nD (by omega) (by repeat (first | with_reducible exact wipe_nil | with_reducible apply wipe_cons | with_reducible exact set_0 | with_reducible apply set_s)) (fun i hi => ?_) ?_
      · (repeat' get_elem_tactic_trivial)
        refine ⟨by rw [dec_nat], fun _ => (by (refine mrg_i ?_; repeat (first | exact mrg_nil | refine mrg_in rfl (by first | with_reducible assumption | rfl) ?_ | refine mrg_out rfl ?_))), fun _ => ?_⟩
        (repeat' get_elem_tactic_trivial)
        exact ⟨rfl, (by (refine mrg_i ?_; repeat (first | exact mrg_nil | refine mrg_in rfl (by first | with_reducible assumption | rfl) ?_ | refine mrg_out rfl ?_)))⟩
      rw [show xs.filter (fun i => !decide (i = k)) = but k xs from rfl]
      (repeat' get_elem_tactic_trivial)
      refine lc_alleq nD (fun i => fgD (fs.getD i default)) (by omega) (by repeat (first | with_reducible exact wipe_nil | with_reducible apply wipe_cons | with_reducible exact set_0 | with_reducible apply set_s)) (fun i hi => ?_) ?_
      · have := hbm i hi
        (repeat' get_elem_tactic_trivial)
        exact ⟨rfl, (by (refine mrg_i ?_; repeat (first | exact mrg_nil | refine mrg_in rfl (by first | with_reducible assumption | rfl) ?_ | refine mrg_out rfl ?_)))⟩
      rw [sub_D]
      (repeat' get_elem_tactic_trivial)
      refine call_ret (is_possible_eq true (sub fs (but k xs)) W (sub_ok h hbm hbl).ok) rfl ?_
      (repeat' get_elem_tactic_trivial)
      refine onBl_n (fun g => ?_) (fun g => ?_)
      · (repeat' get_elem_tactic_trivial)
        refine ⟨_, but k xs, _, _, rfl, g1.filter _, hbm, g, fun a ha hd => ?_⟩
        obtain ⟨h1, h2⟩ := but_mem.mp ha
        rw [List.length_append, List.length_singleton] at hd
        exact sub_le (fun i hi => by
          obtain ⟨z1, z2⟩ := but_mem.mp hi
          exact but_mem.mpr ⟨(but_mem.mp z1).1, z2⟩) (g4 a h1 (by omega))
      · (repeat' get_elem_tactic_trivial)
        refine ⟨_, xs, _, _, rfl, g1, g2, g3, fun a ha hd => ?_⟩
        rw [List.length_append, List.length_singleton] at hd
        by_cases hak : a = k
        · rw [hak]; exact g
        · exact g4 a ha (by omega)
    · obtain ⟨o2, xs, x3, x4, rfl, g1, g2, g3, g4⟩ := hI
      (repeat' get_elem_tactic_trivial)
      exact ⟨rfl, rfl, xs, rfl, g1, g2, g3, fun a ha => g4 a ha (by rw [List.length_range]; exact g2 a ha)⟩
end DL.K50
namespace DL.K50
open PySem PySem.Spec PyProof.Rows L2 DL
local macro_rules | `(tactic| get_elem_tactic_trivial) => `(tactic| first
  | with_reducible refine wS_seq ?_
  | with_reducible refine wS_set ?_
  | with_reducible refine wS_if ?_
  | with_reducible refine wS_ret ?_
  | with_reducible refine ret_st ?_
  | with_reducible refine ret_fr ?_
  | with_reducible refine wE_call ?_
  | with_reducible refine wA_cons ?_
  | with_reducible refine wA_nil ?_
  | with_reducible refine wE_evC ?_
  | ((with_reducible refine v_M ?_); refine vM_a rfl (by repeat (first | with_reducible exact set_0 | with_reducible apply set_s)) ?_)
  | ((with_reducible refine b_M ?_); refine bM_i rfl ?_)
  | ((with_reducible refine m_M ?_); first | refine mM_s rfl ?_ | refine mM_o rfl (by repeat (first | with_reducible exact set_0 | with_reducible apply set_s)) ?_)
  | ((with_reducible refine p_Ms ?_); refine pM_s rfl (by repeat (first | with_reducible exact set_0 | with_reducible apply set_s)) ?_)
  | ((with_reducible refine p_Mf ?_); refine pM_f rfl (by repeat (first | with_reducible exact set_0 | with_reducible apply set_s)) ?_)
  | with_reducible refine wE_ev1 ?_
  | with_reducible refine wE_ev2 ?_
  | with_reducible refine wE_and ?_
  | with_reducible refine wE_or ?_
  | with_reducible refine wE_not ?_
  | with_reducible refine wE_tru ?_
  | with_reducible refine wE_if ?_
  | with_reducible refine wE_tup ?_
  | with_reducible refine wE_lst ?_
  | with_reducible refine wE_neg ?_
  | with_reducible refine wE_ev3 ?_
  | with_reducible refine wE_callK2 ?_
  | with_reducible refine wE_sl ?_
  | with_reducible refine wE_LRg ?_
  | with_reducible refine wE_TRg ?_
  | with_reducible refine wE_lc ?_
  | with_reducible refine wV_none ?_
  | with_reducible refine wV_some ?_
  | with_reducible refine And.intro st_nb ?_
  | with_reducible refine And.intro fr_nb ?_
  | with_reducible refine wS_nil ?_
  | with_reducible refine wS_for ?_
  | with_reducible refine wA_it ?_
  | with_reducible refine wA_en ?_
  | with_reducible refine wA_R1 ?_
  | with_reducible refine wA_R2 ?_
  | ((with_reducible show itK _ _ _ _); first | refine it_seq st_nb rfl ?_ | refine it_seq fr_nb rfl ?_)
  | ((with_reducible show enK _ _ _); first | refine en_seq rfl ?_)
  | ((with_reducible show isBl _ _); first | refine isBl_i rfl ?_)
  | ((with_reducible show isInt _ _); first | refine isInt_i rfl ?_)
  | ((with_reducible show isTru _ _); first | refine isTru_i rfl ?_)
  | ((with_reducible show lenB _ _); first | refine lenB_i (by first | omega | (simp <;> omega)) ?_ | fail)
  | ((with_reducible show in62 _ _); first | refine in62_i (by first | omega | with_reducible assumption) (by first | omega | with_reducible assumption) ?_ | fail)
  | ((with_reducible show inM _ _); first | refine inM_i (by first | omega | with_reducible assumption) (by first | omega | with_reducible assumption) ?_ | fail)
  | ((with_reducible show onBl _ _ _); first | with_reducible refine onBl_t ?_ | with_reducible refine onBl_f ?_ | with_reducible refine onBl_nt ?_ | with_reducible refine onBl_nf ?_ | with_reducible refine onBl_dt (by first | omega | with_reducible assumption) ?_ | with_reducible refine onBl_df (by first | omega | with_reducible assumption) ?_ | with_reducible refine onBl_ndt (by first | omega | with_reducible assumption) ?_ | with_reducible refine onBl_ndf (by first | omega | with_reducible assumption) ?_ | fail)
  | ((with_reducible show wpO (gAdd _ _) _); first | refine wO_add rfl rfl ?_ | refine wO_catT rfl rfl (by first | omega | (simp <;> omega)) ?_ | refine wO_catL rfl rfl (by first | omega | (simp <;> omega)) ?_ | refine wO_catT rfl rfl ?_ ?_ | refine wO_catL rfl rfl ?_ ?_)
  | ((with_reducible show wpO (gSubI _ _) _); first | refine wO_sub rfl rfl ?_)
  | ((with_reducible show wpO (gMul _ _) _); first | refine wO_mul rfl rfl (mulOk_small (by omega)) ?_ | refine wO_mul rfl rfl (by first | with_reducible assumption | rfl) ?_ | fail)
  | ((with_reducible show wpO (gFdiv _ _) _); first | refine wO_fdiv rfl rfl (fdivOk_small (by omega)) ?_ | refine wO_fdiv rfl rfl (by first | with_reducible assumption | rfl) ?_ | fail)
  | ((with_reducible show wpO (gMod _ _) _); first | refine wO_mod rfl rfl (by first | omega | with_reducible assumption) ?_ | fail)
  | ((with_reducible show wpO (gLt _ _) _); first | refine wO_lt rfl rfl ?_)
  | ((with_reducible show wpO (gLe _ _) _); first | refine wO_le rfl rfl ?_)
  | ((with_reducible show wpO (gGt _ _) _); first | refine wO_gt rfl rfl ?_)
  | ((with_reducible show wpO (gGe _ _) _); first | refine wO_ge rfl rfl ?_)
  | ((with_reducible show wpO (gEq _ _) _); first | refine wO_eqI rfl rfl ?_ | refine wO_eqB rfl rfl ?_)
  | ((with_reducible show wpO (gNe _ _) _); first | refine wO_neI rfl rfl ?_ | refine wO_neB rfl rfl ?_)
  | with_reducible refine wO_isN ?_
  | with_reducible refine wO_notN ?_
  | ((with_reducible show wpO (gIsB _ _) _); first | refine wO_isB rfl rfl ?_)
  | ((with_reducible show wpO (gLen _) _); first | refine wO_lenm rfl ?_ | refine wO_len rfl ?_)
  | ((with_reducible show wpO (gList _) _); first | refine wO_list rfl ?_)
  | ((with_reducible show wpO (gTuple _) _); first | refine wO_tuple rfl ?_)
  | ((with_reducible show wpO (gInt _) _); first | refine wO_int rfl ?_)
  | ((with_reducible show wpO (gAbs _) _); first | refine wO_abs rfl ?_)
  | ((with_reducible show wpO (gMax2 _ _) _); first | refine wO_max2 rfl rfl ?_)
  | ((with_reducible show wpO (gMin2 _ _) _); first | refine wO_min2 rfl rfl ?_)
  | ((with_reducible show wpO (gIx _ _) _); first | refine wO_ix rfl rfl (by first | omega | with_reducible assumption) ?_ | refine wO_ix_last rfl rfl (by first | with_reducible assumption | simp) ?_ | refine wO_ixi rfl rfl (by first | omega | with_reducible assumption) ?_ | refine wO_ixl rfl ?_)
  | ((with_reducible show wpO (gIsi _ _) _); first | refine wO_isi rfl ?_)
  | ((with_reducible show wpO (gSl _ _ _) _); first | refine wO_slL rfl ?_ | refine wO_slT rfl ?_)
  | ((with_reducible show wpO (gRev _) _); first | refine wO_revL rfl ?_ | refine wO_revT rfl ?_)
  | with_reducible refine wO_rep_non ?_
  | ((with_reducible show wpO (gRep0 _) _); first | refine wO_rep_bl rfl ?_)
  | with_reducible refine wO_all ?_
  | with_reducible refine wO_any ?_
  | with_reducible refine wS_parK ?_
  | with_reducible refine wS_par3 ?_
  | with_reducible refine wS_asg ?_
  | with_reducible refine wC_cons ?_
  | with_reducible refine wC_nil ?_
  | with_reducible refine wS_putI ?_
  | with_reducible refine wS_swapI ?_
  | with_reducible refine swap_i ?_
  | with_reducible refine wS_drop ?_
  | with_reducible refine wS_retN ?_
  | with_reducible refine wS_brk ?_
  | with_reducible refine wS_cnt ?_
  | ((with_reducible show par3K _ _ _ _ _ _); first | refine par3_st (lt_of_ble rfl) (lt_of_ble rfl) (lt_of_ble rfl) (by repeat (first | with_reducible exact set_0 | with_reducible apply set_s)) (by repeat (first | with_reducible exact set_0 | with_reducible apply set_s)) (by repeat (first | with_reducible exact set_0 | with_reducible apply set_s)) ?_)
  | ((with_reducible show wpC (tgTup _ _ _ _) _); first | refine wC_tup rfl rfl ?_)
  | ((with_reducible show wpC (tgUnl _ _ _ _) _); first | refine wC_unl rfl rfl ?_)
  | ((with_reducible refine t_M ?_); refine tM_i rfl (by repeat (first | with_reducible exact set_0 | with_reducible apply set_s)) ?_)
  | ((with_reducible show wpS (sApp _ _ _) _); first | refine wS_app rfl ?_)
  | ((with_reducible show appK _ _ _ _ _); first | refine app_st (by first | exact st_nb | exact fr_nb) rfl (by first | omega | (simp <;> omega)) (by repeat (first | with_reducible exact set_0 | with_reducible apply set_s)) ?_ | fail)
  | ((with_reducible show ownK _ _ _); first | refine own_i rfl ?_)
  | ((with_reducible show wpS (sAppPop _ _ _ _) _); first | refine wS_appPop rfl rfl ?_))
/-! ### is_clash, _law_clashes -/
def oD : Option Int → D
  | some i => .int i
  | none => .bl true
theorem ok_oD (o : Option Int) : okD (oD o) = true := by cases o <;> rfl
def natO (xs : List Nat) : List (Option Int) := xs.map fun i : Nat => some (i : Int)
theorem natO_D (xs : List Nat) : (natO xs).map oD = xs.map nD := by
  unfold natO
  rw [List.map_map]
  rfl
def Cv (fs : List Fg) (os : List (Option Int)) : Prop := ∃ xs : List Nat, os = natO xs ∧ Cl fs xs
theorem natO_of {n : Nat} : ∀ {os : List (Option Int)}, (∀ o ∈ os, isIxD (n : Int) (oD o) = true) → ∃ xs : List Nat, os = natO xs ∧ ∀ i ∈ xs, i < n
  | [], _ => ⟨[], rfl, fun i hi => absurd hi List.not_mem_nil⟩
  | o :: os, h => by
    obtain ⟨xs, e, h2⟩ := natO_of (os := os) fun x hx => h x (List.mem_cons_of_mem _ hx)
    have h1 := h o List.mem_cons_self
    cases o with
    | none => cases h1
    | some i =>
      unfold oD isIxD at h1
      simp at h1
      refine ⟨i.toNat :: xs, ?_, fun j hj => ?_⟩
      · unfold natO
        rw [List.map_cons, Int.toNat_of_nonneg h1.1, e]
        rfl
      · rcases List.mem_cons.mp hj with rfl | hj
        · omega
        · exact h2 j hj
theorem ix_nat {n i : Nat} (h : i < n) : isIxD (n : Int) (nD i) = true := by
  unfold nD isIxD
  simp
  omega
theorem pw_adj : ∀ {xs : List Nat}, (∀ k, k + 1 < xs.length → xs.getD k 0 < xs.getD (k + 1) 0) → xs.Pairwise (· < ·)
  | [], _ => .nil
  | [x], _ => by simp
  | x :: y :: xs, h => by
    have h1 := pw_adj (xs := y :: xs) (fun k hk => by simpa using h (k + 1) (by simpa using hk))
    have h0 : x < y := by simpa using h 0 (by simp)
    rw [List.pairwise_cons]
    refine ⟨fun z hz => ?_, h1⟩
    rcases List.mem_cons.mp hz with rfl | hz
    · exact h0
    · exact Nat.lt_trans h0 ((List.pairwise_cons.mp h1).1 z hz)
theorem up_any (xs : List Nat) : ((List.range ((xs.length : Int) - 1).toNat).any fun k => decide ((xs.getD ((k : Int) + 1).toNat default : Int) ≤ (xs.getD k default : Int))) = false ↔ xs.Pairwise (· < ·) := by
  rw [List.any_eq_false]
  constructor
  · intro h
    refine pw_adj fun k hk => ?_
    have := h k (List.mem_range.mpr (by omega))
    rw [show ((k : Int) + 1).toNat = k + 1 by omega] at this
    simp only [decide_eq_true_eq] at this
    show xs.getD k default < xs.getD (k + 1) default
    omega
  · intro h k hk
    have hk' := List.mem_range.mp hk
    rw [show ((k : Int) + 1).toNat = k + 1 by omega]
    have h1 : k < xs.length := by omega
    have h2 : k + 1 < xs.length := by omega
    have := List.pairwise_iff_getElem.mp h k (k + 1) h1 h2 (by omega)
    simp only [decide_eq_true_eq, List.getD_eq_getElem?_getD, List.getElem?_eq_getElem h1, List.getElem?_eq_getElem h2, Option.getD_some]
    omega
theorem is_clash_bad (b : Bool) (fs : List Fg) (os : List (Option Int)) (W : Wd) (h : FS fs) (hl : os.length ≤ 60) (hn : ¬ ∀ o ∈ os, isIxD (fs.length : Int) (oD o) = true) : F_is_clash [sqD b (fs.map fgD), .tup (os.map oD)] W = .ret false (.bl false) W := by
  refine ret_of ?_
  unfold F_is_clash f_is_clash
  refine wF_run rfl (by repeat (first | with_reducible exact st_0 | with_reducible apply st_d | with_reducible apply st_n)) ?_
  (repeat' get_elem_tactic_trivial)
  refine call_ret (checked_findings_eq b fs W h.ok) rfl ?_
  (repeat' get_elem_tactic_trivial)
  refine lc_alleq oD (fun o => .bl (isIxD (fs.length : Int) (oD o))) (by omega) (by repeat (first | with_reducible exact wipe_nil | with_reducible apply wipe_cons | with_reducible exact set_0 | with_reducible apply set_s)) (fun o ho => ?_) ?_
  · (repeat' get_elem_tactic_trivial)
    refine call_ret (is_index_eq (oD o) _ W (ok_oD o)) rfl ?_
    (repeat' get_elem_tactic_trivial)
    exact ⟨rfl, (by (refine mrg_i ?_; repeat (first | exact mrg_nil | refine mrg_in rfl (by first | with_reducible assumption | rfl) ?_ | refine mrg_out rfl ?_)))⟩
  (repeat' get_elem_tactic_trivial)
  refine onBl_n (fun g => ?_) (fun g => ?_)
  · (repeat' get_elem_tactic_trivial)
    exact ⟨rfl, rfl, rfl⟩
  · exact absurd (List.all_eq_true.mp g) hn
theorem is_clash_nat (b : Bool) (fs : List Fg) (xs : List Nat) (W : Wd) (h : FS fs) (hl : xs.length ≤ 60) (hn : ∀ i ∈ xs, i < fs.length) : ∃ t, F_is_clash [sqD b (fs.map fgD), .tup (xs.map nD)] W = .ret false (.bl t) W ∧ (t = true ↔ Cl fs xs) := by
  suffices hz : wpF (F_is_clash [sqD b (fs.map fgD), .tup (xs.map nD)] W) (fun fr d W' => fr = false ∧ W' = W ∧ ∃ t, d = .bl t ∧ (t = true ↔ Cl fs xs)) (fun _ _ => False) by
    obtain ⟨fr, d, W', e, rfl, rfl, t, rfl, h2⟩ := wpF_ex hz
    exact ⟨t, e, h2⟩
  have hfl := h.ok.sz
  unfold F_is_clash f_is_clash
  refine wF_run rfl (by repeat (first | with_reducible exact st_0 | with_reducible apply st_d | with_reducible apply st_n)) ?_
  (repeat' get_elem_tactic_trivial)
  refine call_ret (checked_findings_eq b fs W h.ok) rfl ?_
  (repeat' get_elem_tactic_trivial)
  refine lc_alleq nD (fun o => .bl (isIxD (fs.length : Int) (nD o))) (by omega) (by repeat (first | with_reducible exact wipe_nil | with_reducible apply wipe_cons | with_reducible exact set_0 | with_reducible apply set_s)) (fun o ho => ?_) ?_
  · (repeat' get_elem_tactic_trivial)
    refine call_ret (is_index_eq (nD o) _ W rfl) rfl ?_
    (repeat' get_elem_tactic_trivial)
    exact ⟨rfl, (by (refine mrg_i ?_; repeat (first | exact mrg_nil | refine mrg_in rfl (by first | with_reducible assumption | rfl) ?_ | refine mrg_out rfl ?_)))⟩
  (repeat' get_elem_tactic_trivial)
  refine onBl_n (fun g => ?_) (fun g => ?_)
  · have : xs.all (fun o => isIxD (fs.length : Int) (nD o)) = true := List.all_eq_true.mpr fun i hi => ix_nat (hn i hi)
    rw [this] at g
    cases g
  (repeat' get_elem_tactic_trivial)
  rw [rngD_0]
  refine lc_alleq nD (fun k => .bl (decide ((xs.getD ((k : Int) + 1).toNat default : Int) ≤ (xs.getD k default : Int)))) (by simp; omega) (by repeat (first | with_reducible exact wipe_nil | with_reducible apply wipe_cons | with_reducible exact set_0 | with_reducible apply set_s)) (fun k hk => ?_) ?_
  · have hk := List.mem_range.mp hk
    (repeat' get_elem_tactic_trivial)
    exact ⟨rfl, (by (refine mrg_i ?_; repeat (first | exact mrg_nil | refine mrg_in rfl (by first | with_reducible assumption | rfl) ?_ | refine mrg_out rfl ?_)))⟩
  (repeat' get_elem_tactic_trivial)
  refine onBl_b (fun g2 => ?_) (fun g2 => ?_)
  · (repeat' get_elem_tactic_trivial)
    refine ⟨rfl, rfl, false, rfl, ?_⟩
    constructor
    · intro z; cases z
    · intro z
      rw [(up_any xs).mpr z.up] at g2
      cases g2
  have hup := (up_any xs).mp g2
  (repeat' get_elem_tactic_trivial)
  refine lc_alleq nD (fun i => fgD (fs.getD i default)) (by omega) (by repeat (first | with_reducible exact wipe_nil | with_reducible apply wipe_cons | with_reducible exact set_0 | with_reducible apply set_s)) (fun i hi => ?_) ?_
  · have := hn i hi
    (repeat' get_elem_tactic_trivial)
    exact ⟨rfl, (by (refine mrg_i ?_; repeat (first | exact mrg_nil | refine mrg_in rfl (by first | with_reducible assumption | rfl) ?_ | refine mrg_out rfl ?_)))⟩
  rw [sub_D]
  (repeat' get_elem_tactic_trivial)
  refine call_ret (is_possible_eq true (sub fs xs) W (sub_ok h hn (by omega)).ok) rfl ?_
  (repeat' get_elem_tactic_trivial)
  refine onBl_b (fun g3 => ?_) (fun g3 => ?_)
  · (repeat' get_elem_tactic_trivial)
    refine ⟨rfl, rfl, false, rfl, ?_⟩
    constructor
    · intro z; cases z
    · intro z
      have := z.no
      rw [g3] at this
      cases this
  (repeat' get_elem_tactic_trivial)
  refine lc_alleq nD (fun a => .bl (possF (sub fs (but a xs)))) (by omega) (by repeat (first | with_reducible exact wipe_nil | with_reducible apply wipe_cons | with_reducible exact set_0 | with_reducible apply set_s)) (fun a ha => ?_) ?_
  · (repeat' get_elem_tactic_trivial)
    refine lc_eq nD (fun i => !decide (i = a)) (fun i => fgD (fs.getD i default)) (by omega) (by repeat (first | with_reducible exact wipe_nil | with_reducible apply wipe_cons | with_reducible exact set_0 | with_reducible apply set_s)) (fun i hi => ?_) ?_
    · have := hn i hi
      (repeat' get_elem_tactic_trivial)
      refine ⟨by rw [dec_nat], fun _ => (by (refine mrg_i ?_; repeat (first | exact mrg_nil | refine mrg_in rfl (by first | with_reducible assumption | rfl) ?_ | refine mrg_out rfl ?_))), fun _ => ?_⟩
      (repeat' get_elem_tactic_trivial)
      exact ⟨rfl, (by (refine mrg_i ?_; repeat (first | exact mrg_nil | refine mrg_in rfl (by first | with_reducible assumption | rfl) ?_ | refine mrg_out rfl ?_)))⟩
    rw [show xs.filter (fun i => !decide (i = a)) = but a xs from rfl, sub_D]
    (repeat' get_elem_tactic_trivial)
    refine call_ret (is_possible_eq true (sub fs (but a xs)) W (sub_ok h (fun i hi => hn i (but_mem.mp hi).1) (Nat.le_trans (List.length_filter_le _ _) (by omega))).ok) rfl ?_
    (repeat' get_elem_tactic_trivial)
    exact ⟨rfl, (by (refine mrg_i ?_; repeat (first | exact mrg_nil | refine mrg_in rfl (by first | with_reducible assumption | rfl) ?_ | refine mrg_out rfl ?_)))⟩
  (repeat' get_elem_tactic_trivial)
  refine ⟨rfl, rfl, _, rfl, ?_⟩
  rw [List.all_eq_true]
  constructor
  · exact fun z => ⟨hup, hn, g3, z⟩
  · exact fun z => z.ev
theorem is_clash_ex (b : Bool) (fs : List Fg) (os : List (Option Int)) (W : Wd) (h : FS fs) (hl : os.length ≤ 60) : ∃ t, F_is_clash [sqD b (fs.map fgD), .tup (os.map oD)] W = .ret false (.bl t) W ∧ (t = true ↔ Cv fs os) := by
  by_cases hn : ∀ o ∈ os, isIxD (fs.length : Int) (oD o) = true
  · obtain ⟨xs, rfl, h2⟩ := natO_of hn
    rw [natO_D]
    obtain ⟨t, e, h3⟩ := is_clash_nat b fs xs W h (by simpa [natO] using hl) h2
    refine ⟨t, e, h3.trans ⟨fun z => ⟨xs, rfl, z⟩, fun ⟨ys, e, z⟩ => ?_⟩⟩
    have : xs = ys := by
      unfold natO at e
      refine List.map_inj_right (f := fun i : Nat => some (i : Int)) (fun a b h => ?_) |>.mp e
      exact Int.ofNat.inj (Option.some.inj h)
    rw [this]
    exact z
  · refine ⟨false, is_clash_bad b fs os W h hl hn, ⟨fun z => (by cases z), fun ⟨xs, e, z⟩ => absurd (fun o ho => ?_) hn⟩⟩
    rw [e] at ho
    obtain ⟨i, hi, rfl⟩ := List.mem_map.mp ho
    exact ix_nat (z.lt i hi)
end DL.K50
namespace DL.K50
open PySem PySem.Spec PyProof.Rows L2 DL
local macro_rules | `(tactic| get_elem_tactic_trivial) => `(tactic| first
  | with_reducible refine wS_seq ?_
  | with_reducible refine wS_set ?_
  | with_reducible refine wS_if ?_
  | with_reducible refine wS_ret ?_
  | with_reducible refine ret_st ?_
  | with_reducible refine ret_fr ?_
  | with_reducible refine wE_call ?_
  | with_reducible refine wA_cons ?_
  | with_reducible refine wA_nil ?_
  | with_reducible refine wE_evC ?_
  | ((with_reducible refine v_M ?_); refine vM_a rfl (by repeat (first | with_reducible exact set_0 | with_reducible apply set_s)) ?_)
  | ((with_reducible refine b_M ?_); refine bM_i rfl ?_)
  | ((with_reducible refine m_M ?_); first | refine mM_s rfl ?_ | refine mM_o rfl (by repeat (first | with_reducible exact set_0 | with_reducible apply set_s)) ?_)
  | ((with_reducible refine p_Ms ?_); refine pM_s rfl (by repeat (first | with_reducible exact set_0 | with_reducible apply set_s)) ?_)
  | ((with_reducible refine p_Mf ?_); refine pM_f rfl (by repeat (first | with_reducible exact set_0 | with_reducible apply set_s)) ?_)
  | with_reducible refine wE_ev1 ?_
  | with_reducible refine wE_ev2 ?_
  | with_reducible refine wE_and ?_
  | with_reducible refine wE_or ?_
  | with_reducible refine wE_not ?_
  | with_reducible refine wE_tru ?_
  | with_reducible refine wE_if ?_
  | with_reducible refine wE_tup ?_
  | with_reducible refine wE_lst ?_
  | with_reducible refine wE_neg ?_
  | with_reducible refine wE_ev3 ?_
  | with_reducible refine wE_callK2 ?_
  | with_reducible refine wE_sl ?_
  | with_reducible refine wE_LRg ?_
  | with_reducible refine wE_TRg ?_
  | with_reducible refine wE_lc ?_
  | with_reducible refine wV_none ?_
  | with_reducible refine wV_some ?_
  | with_reducible refine And.intro st_nb ?_
  | with_reducible refine And.intro fr_nb ?_
  | with_reducible refine wS_nil ?_
  | with_reducible refine wS_for ?_
  | with_reducible refine wA_it ?_
  | with_reducible refine wA_en ?_
  | with_reducible refine wA_R1 ?_
  | with_reducible refine wA_R2 ?_
  | ((with_reducible show itK _ _ _ _); first | refine it_seq st_nb rfl ?_ | refine it_seq fr_nb rfl ?_)
  | ((with_reducible show enK _ _ _); first | refine en_seq rfl ?_)
  | ((with_reducible show isBl _ _); first | refine isBl_i rfl ?_)
  | ((with_reducible show isInt _ _); first | refine isInt_i rfl ?_)
  | ((with_reducible show isTru _ _); first | refine isTru_i rfl ?_)
  | ((with_reducible show lenB _ _); first | refine lenB_i (by first | omega | (simp <;> omega)) ?_ | fail)
  | ((with_reducible show in62 _ _); first | refine in62_i (by first | omega | with_reducible assumption) (by first | omega | with_reducible assumption) ?_ | fail)
  | ((with_reducible show inM _ _); first | refine inM_i (by first | omega | with_reducible assumption) (by first | omega | with_reducible assumption) ?_ | fail)
  | ((with_reducible show onBl _ _ _); first | with_reducible refine onBl_t ?_ | with_reducible refine onBl_f ?_ | with_reducible refine onBl_nt ?_ | with_reducible refine onBl_nf ?_ | with_reducible refine onBl_dt (by first | omega | with_reducible assumption) ?_ | with_reducible refine onBl_df (by first | omega | with_reducible assumption) ?_ | with_reducible refine onBl_ndt (by first | omega | with_reducible assumption) ?_ | with_reducible refine onBl_ndf (by first | omega | with_reducible assumption) ?_ | fail)
  | ((with_reducible show wpO (gAdd _ _) _); first | refine wO_add rfl rfl ?_ | refine wO_catT rfl rfl (by first | omega | (simp <;> omega)) ?_ | refine wO_catL rfl rfl (by first | omega | (simp <;> omega)) ?_ | refine wO_catT rfl rfl ?_ ?_ | refine wO_catL rfl rfl ?_ ?_)
  | ((with_reducible show wpO (gSubI _ _) _); first | refine wO_sub rfl rfl ?_)
  | ((with_reducible show wpO (gMul _ _) _); first | refine wO_mul rfl rfl (mulOk_small (by omega)) ?_ | refine wO_mul rfl rfl (by first | with_reducible assumption | rfl) ?_ | fail)
  | ((with_reducible show wpO (gFdiv _ _) _); first | refine wO_fdiv rfl rfl (fdivOk_small (by omega)) ?_ | refine wO_fdiv rfl rfl (by first | with_reducible assumption | rfl) ?_ | fail)
  | ((with_reducible show wpO (gMod _ _) _); first | refine wO_mod rfl rfl (by first | omega | with_reducible assumption) ?_ | fail)
  | ((with_reducible show wpO (gLt _ _) _); first | refine wO_lt rfl rfl ?_)
  | ((with_reducible show wpO (gLe _ _) _); first | refine wO_le rfl rfl ?_)
  | ((with_reducible show wpO (gGt _ _) _); first | refine wO_gt rfl rfl ?_)
  | ((with_reducible show wpO (gGe _ _) _); first | refine wO_ge rfl rfl ?_)
  | ((with_reducible show wpO (gEq _ _) _); first | refine wO_eqI rfl rfl ?_ | refine wO_eqB rfl rfl ?_)
  | ((with_reducible show wpO (gNe _ _) _); first | refine wO_neI rfl rfl ?_ | refine wO_neB rfl rfl ?_)
  | with_reducible refine wO_isN ?_
  | with_reducible refine wO_notN ?_
  | ((with_reducible show wpO (gIsB _ _) _); first | refine wO_isB rfl rfl ?_)
  | ((with_reducible show wpO (gLen _) _); first | refine wO_lenm rfl ?_ | refine wO_len rfl ?_)
  | ((with_reducible show wpO (gList _) _); first | refine wO_list rfl ?_)
  | ((with_reducible show wpO (gTuple _) _); first | refine wO_tuple rfl ?_)
  | ((with_reducible show wpO (gInt _) _); first | refine wO_int rfl ?_)
  | ((with_reducible show wpO (gAbs _) _); first | refine wO_abs rfl ?_)
  | ((with_reducible show wpO (gMax2 _ _) _); first | refine wO_max2 rfl rfl ?_)
  | ((with_reducible show wpO (gMin2 _ _) _); first | refine wO_min2 rfl rfl ?_)
  | ((with_reducible show wpO (gIx _ _) _); first | refine wO_ix rfl rfl (by first | omega | with_reducible assumption) ?_ | refine wO_ix_last rfl rfl (by first | with_reducible assumption | simp) ?_ | refine wO_ixi rfl rfl (by first | omega | with_reducible assumption) ?_ | refine wO_ixl rfl ?_)
  | ((with_reducible show wpO (gIsi _ _) _); first | refine wO_isi rfl ?_)
  | ((with_reducible show wpO (gSl _ _ _) _); first | refine wO_slL rfl ?_ | refine wO_slT rfl ?_)
  | ((with_reducible show wpO (gRev _) _); first | refine wO_revL rfl ?_ | refine wO_revT rfl ?_)
  | with_reducible refine wO_rep_non ?_
  | ((with_reducible show wpO (gRep0 _) _); first | refine wO_rep_bl rfl ?_)
  | with_reducible refine wO_all ?_
  | with_reducible refine wO_any ?_
  | with_reducible refine wS_parK ?_
  | with_reducible refine wS_par3 ?_
  | with_reducible refine wS_asg ?_
  | with_reducible refine wC_cons ?_
  | with_reducible refine wC_nil ?_
  | with_reducible refine wS_putI ?_
  | with_reducible refine wS_swapI ?_
  | with_reducible refine swap_i ?_
  | with_reducible refine wS_drop ?_
  | with_reducible refine wS_retN ?_
  | with_reducible refine wS_brk ?_
  | with_reducible refine wS_cnt ?_
  | ((with_reducible show par3K _ _ _ _ _ _); first | refine par3_st (lt_of_ble rfl) (lt_of_ble rfl) (lt_of_ble rfl) (by repeat (first | with_reducible exact set_0 | with_reducible apply set_s)) (by repeat (first | with_reducible exact set_0 | with_reducible apply set_s)) (by repeat (first | with_reducible exact set_0 | with_reducible apply set_s)) ?_)
  | ((with_reducible show wpC (tgTup _ _ _ _) _); first | refine wC_tup rfl rfl ?_)
  | ((with_reducible show wpC (tgUnl _ _ _ _) _); first | refine wC_unl rfl rfl ?_)
  | ((with_reducible refine t_M ?_); refine tM_i rfl (by repeat (first | with_reducible exact set_0 | with_reducible apply set_s)) ?_)
  | ((with_reducible show wpS (sApp _ _ _) _); first | refine wS_app rfl ?_)
  | ((with_reducible show appK _ _ _ _ _); first | refine app_st (by first | exact st_nb | exact fr_nb) rfl (by first | omega | (simp <;> omega)) (by repeat (first | with_reducible exact set_0 | with_reducible apply set_s)) ?_ | fail)
  | ((with_reducible show ownK _ _ _); first | refine own_i rfl ?_)
  | ((with_reducible show wpS (sAppPop _ _ _ _) _); first | refine wS_appPop rfl rfl ?_))
theorem cv_nat {fs : List Fg} {xs : List Nat} : Cv fs (natO xs) ↔ Cl fs xs := by
  constructor
  · rintro ⟨ys, e, z⟩
    have : xs = ys := by
      unfold natO at e
      refine List.map_inj_right (f := fun i : Nat => some (i : Int)) (fun a b h => ?_) |>.mp e
      exact Int.ofNat.inj (Option.some.inj h)
    rw [this]
    exact z
  · exact fun z => ⟨xs, rfl, z⟩
theorem gd_oD (o : Option Int) : Gd 0 (oD o) := by
  cases o with
  | none => exact gd_bl 0 true
  | some i => exact gd_int 0 i
theorem isTs_int (o : Option Int) : isTs [.int] (oD o) = some true := by cases o <;> rfl
theorem isTs_bool (o : Option Int) : isTs [.bool] (oD o) = some o.isNone := by cases o <;> rfl
theorem intsD_map (is : List Int) : intsD (is.map D.int) = some is := by
  induction is with
  | nil => rfl
  | cons i is ih =>
    rw [List.map_cons]
    unfold intsD
    rw [ih]
    rfl
theorem sortSet_ints {is : List Int} (h : is.length < 63) : gSortSet (.tup (is.map D.int)) = some (.fr, .lst ((sortN is).map D.int)) := by
  unfold gSortSet
  dsimp only
  rw [intsD_map]
  dsimp only
  rw [if_pos h]
theorem sortN_len (is : List Int) : (sortN is).length ≤ is.length := by
  induction is with
  | nil => exact Nat.le_refl _
  | cons i is ih =>
    have key : ∀ js : List Int, (insN i js).length ≤ js.length + 1 := by
      intro js
      induction js with
      | nil => exact Nat.le_refl _
      | cons j js ih =>
        unfold insN
        split
        · simp
        · split
          · simp
          · simp
            omega
    have := key (sortN is)
    show (insN i (sortN is)).length ≤ _
    rw [List.length_cons]
    omega
theorem sortN_self {is : List Int} (h : is.Pairwise (· < ·)) : sortN is = is := rise_eq (sortN_lt is) h fun k => sortN_mem
theorem law_clashes_none (fs : List Fg) (os : List (Option Int)) (W : Wd) (hl : os.length ≤ 60) (hn : none ∈ os) : F__law_clashes [.tup (fs.map fgD), .tup (os.map oD)] W = .ret false (.bl false) W := by
  refine ret_of ?_
  unfold F__law_clashes f__law_clashes
  refine wF_run rfl (by repeat (first | with_reducible exact st_0 | with_reducible apply st_d | with_reducible apply st_n)) ?_
  (repeat' get_elem_tactic_trivial)
  refine lc_eq oD (fun o => o.isNone) oD (by omega) (by repeat (first | with_reducible exact wipe_nil | with_reducible apply wipe_cons | with_reducible exact set_0 | with_reducible apply set_s)) (fun o ho => ?_) ?_
  · (repeat' get_elem_tactic_trivial)
    refine wO_isi (isTs_int o) ?_
    (repeat' get_elem_tactic_trivial)
    refine wO_isi (isTs_bool o) ?_
    (repeat' get_elem_tactic_trivial)
    refine ⟨rfl, fun _ => (by (refine mrg_i ?_; repeat (first | exact mrg_nil | refine mrg_in rfl (by first | with_reducible assumption | rfl) ?_ | refine mrg_out rfl ?_))), fun _ => ?_⟩
    (repeat' get_elem_tactic_trivial)
    exact ⟨rfl, (by (refine mrg_i ?_; repeat (first | exact mrg_nil | refine mrg_in rfl (by first | with_reducible assumption | rfl) ?_ | refine mrg_out rfl ?_)))⟩
  (repeat' get_elem_tactic_trivial)
  refine wO_some (gNe_nilS (k := 0) (gd_map gd_oD _) (by omega)) ?_
  rw [List.isEmpty_map]
  refine onBl_n (fun g => ?_) (fun g => ?_)
  · (repeat' get_elem_tactic_trivial)
    exact ⟨rfl, rfl, rfl⟩
  · rw [List.isEmpty_iff, List.filter_eq_nil_iff] at g
    exact absurd rfl (g none hn)
theorem law_clashes_int (fs : List Fg) (is : List Int) (W : Wd) (h : FS fs) (hl : is.length ≤ 60) : ∃ t, F__law_clashes [.tup (fs.map fgD), .tup (is.map D.int)] W = .ret false (.bl t) W ∧ (t = true ↔ Cv fs (is.map some)) := by
  suffices hz : wpF (F__law_clashes [.tup (fs.map fgD), .tup (is.map D.int)] W) (fun fr d W' => fr = false ∧ W' = W ∧ ∃ t, d = .bl t ∧ (t = true ↔ Cv fs (is.map some))) (fun _ _ => False) by
    obtain ⟨fr, d, W', e, rfl, rfl, t, rfl, h2⟩ := wpF_ex hz
    exact ⟨t, e, h2⟩
  have hfl := h.ok.sz
  unfold F__law_clashes f__law_clashes
  refine wF_run rfl (by repeat (first | with_reducible exact st_0 | with_reducible apply st_d | with_reducible apply st_n)) ?_
  (repeat' get_elem_tactic_trivial)
  refine lc_eq D.int (fun o => false) D.int (by omega) (by repeat (first | with_reducible exact wipe_nil | with_reducible apply wipe_cons | with_reducible exact set_0 | with_reducible apply set_s)) (fun o ho => ?_) ?_
  · (repeat' get_elem_tactic_trivial)
    exact ⟨rfl, fun _ => (by (refine mrg_i ?_; repeat (first | exact mrg_nil | refine mrg_in rfl (by first | with_reducible assumption | rfl) ?_ | refine mrg_out rfl ?_))), fun z => by cases z⟩
  rw [List.filter_eq_nil_iff.mpr (fun _ _ z => by cases z)]
  (repeat' get_elem_tactic_trivial)
  refine wO_some (gNe_nilS (k := 0) (ds := List.map D.int []) (fun d hd => absurd hd List.not_mem_nil) (by omega)) ?_
  (repeat' get_elem_tactic_trivial)
  show onBl (.bl (!true)) _ _
  (repeat' get_elem_tactic_trivial)
  refine wO_some (sortSet_ints (by omega)) ?_
  (repeat' get_elem_tactic_trivial)
  refine wO_some (gNe_of (eqv_lst eqv_int) (by omega) is (sortN is)) ?_
  refine onBl_nd (fun g1 => ?_) (fun g1 => ?_)
  · (repeat' get_elem_tactic_trivial)
    refine ⟨rfl, rfl, false, rfl, (fun z => by cases z), fun ⟨xs, e, z⟩ => absurd ?_ g1⟩
    have e2 : is = xs.map fun i : Nat => (i : Int) := by
      refine List.map_inj_right (f := some) (fun a b h => Option.some.inj h) |>.mp ?_
      rw [e, List.map_map]
      rfl
    rw [e2]
    refine (sortN_self ?_).symm
    rw [List.pairwise_map]
    exact z.up.imp fun h => by omega
  (repeat' get_elem_tactic_trivial)
  refine lc_eq D.int (fun i => !(decide (0 ≤ i) && decide (i < (fs.length : Int)))) D.int (by omega) (by repeat (first | with_reducible exact wipe_nil | with_reducible apply wipe_cons | with_reducible exact set_0 | with_reducible apply set_s)) (fun i hi => ?_) ?_
  · (repeat' get_elem_tactic_trivial)
    refine onBl_d (fun q1 => ?_) (fun q1 => ?_)
    · (repeat' get_elem_tactic_trivial)
      refine ⟨by rw [decide_eq_true q1]; rfl, fun _ => (by (refine mrg_i ?_; repeat (first | exact mrg_nil | refine mrg_in rfl (by first | with_reducible assumption | rfl) ?_ | refine mrg_out rfl ?_))), fun _ => ?_⟩
      (repeat' get_elem_tactic_trivial)
      exact ⟨rfl, (by (refine mrg_i ?_; repeat (first | exact mrg_nil | refine mrg_in rfl (by first | with_reducible assumption | rfl) ?_ | refine mrg_out rfl ?_)))⟩
    · (repeat' get_elem_tactic_trivial)
      refine ⟨by rw [decide_eq_false q1]; rfl, fun _ => (by (refine mrg_i ?_; repeat (first | exact mrg_nil | refine mrg_in rfl (by first | with_reducible assumption | rfl) ?_ | refine mrg_out rfl ?_))), fun _ => ?_⟩
      (repeat' get_elem_tactic_trivial)
      exact ⟨rfl, (by (refine mrg_i ?_; repeat (first | exact mrg_nil | refine mrg_in rfl (by first | with_reducible assumption | rfl) ?_ | refine mrg_out rfl ?_)))⟩
  (repeat' get_elem_tactic_trivial)
  refine wO_some (gNe_nilS (k := 0) (gd_map (gd_int 0) _) (by omega)) ?_
  rw [List.isEmpty_map]
  refine onBl_n (fun g2 => ?_) (fun g2 => ?_)
  · (repeat' get_elem_tactic_trivial)
    refine ⟨rfl, rfl, false, rfl, (fun z => by cases z), fun ⟨xs, e, z⟩ => ?_⟩
    have e2 : is = xs.map fun i : Nat => (i : Int) := by
      refine List.map_inj_right (f := some) (fun a b h => Option.some.inj h) |>.mp ?_
      rw [e, List.map_map]
      rfl
    have : is.filter (fun i => !(decide (0 ≤ i) && decide (i < (fs.length : Int)))) = [] := List.filter_eq_nil_iff.mpr fun i hi => by
      rw [e2] at hi
      obtain ⟨k, hk, rfl⟩ := List.mem_map.mp hi
      have := z.lt k hk
      simp
      omega
    rw [this] at g2
    cases g2
  rw [List.isEmpty_iff, List.filter_eq_nil_iff] at g2
  obtain ⟨xs, rfl, hx⟩ : ∃ xs : List Nat, is = xs.map (fun i : Nat => (i : Int)) ∧ ∀ i ∈ xs, i < fs.length := by
    refine ⟨is.map Int.toNat, ?_, fun i hi => ?_⟩
    · rw [List.map_map]
      refine (List.map_id is).symm.trans (List.map_congr_left fun i hi => ?_)
      have := g2 i hi
      simp at this
      show i = ((i.toNat : Nat) : Int)
      omega
    · obtain ⟨k, hk, rfl⟩ := List.mem_map.mp hi
      have := g2 k hk
      simp at this
      omega
  have hup : xs.Pairwise (· < ·) := by
    have h1 := sortN_lt (xs.map fun i : Nat => (i : Int))
    rw [← g1, List.pairwise_map] at h1
    exact h1.imp fun h => by omega
  have hxl : xs.length ≤ 60 := by simpa using hl
  have ed : (xs.map fun i : Nat => (i : Int)).map D.int = xs.map nD := by
    rw [List.map_map]
    rfl
  have ec : (xs.map fun i : Nat => (i : Int)).map some = natO xs := by
    rw [List.map_map]
    rfl
  rw [ed, ec]
  (repeat' get_elem_tactic_trivial)
  refine lc_alleq nD (fun i => fgD (fs.getD i default)) (by omega) (by repeat (first | with_reducible exact wipe_nil | with_reducible apply wipe_cons | with_reducible exact set_0 | with_reducible apply set_s)) (fun i hi => ?_) ?_
  · have := hx i hi
    (repeat' get_elem_tactic_trivial)
    exact ⟨rfl, (by (refine mrg_i ?_; repeat (first | exact mrg_nil | refine mrg_in rfl (by first | with_reducible assumption | rfl) ?_ | refine mrg_out rfl ?_)))⟩
  rw [sub_D]
  (repeat' get_elem_tactic_trivial)
  refine call_ret (law_possible_eq true (sub fs xs) W (sub_ok h hx (by omega))) rfl ?_
  (repeat' get_elem_tactic_trivial)
  refine onBl_b (fun g3 => ?_) (fun g3 => ?_)
  · (repeat' get_elem_tactic_trivial)
    refine ⟨rfl, rfl, false, rfl, (fun z => by cases z), fun z => ?_⟩
    have := (cv_nat.mp z).no
    rw [g3] at this
    cases this
  (repeat' get_elem_tactic_trivial)
  refine lc_eq nD (fun a => !possF (sub fs (but a xs))) nD (by omega) (by repeat (first | with_reducible exact wipe_nil | with_reducible apply wipe_cons | with_reducible exact set_0 | with_reducible apply set_s)) (fun a ha => ?_) ?_
  · (repeat' get_elem_tactic_trivial)
    refine lc_eq nD (fun i => !decide (i = a)) (fun i => fgD (fs.getD i default)) (by omega) (by repeat (first | with_reducible exact wipe_nil | with_reducible apply wipe_cons | with_reducible exact set_0 | with_reducible apply set_s)) (fun i hi => ?_) ?_
    · have := hx i hi
      (repeat' get_elem_tactic_trivial)
      refine ⟨by rw [dec_nat], fun _ => (by (refine mrg_i ?_; repeat (first | exact mrg_nil | refine mrg_in rfl (by first | with_reducible assumption | rfl) ?_ | refine mrg_out rfl ?_))), fun _ => ?_⟩
      (repeat' get_elem_tactic_trivial)
      exact ⟨rfl, (by (refine mrg_i ?_; repeat (first | exact mrg_nil | refine mrg_in rfl (by first | with_reducible assumption | rfl) ?_ | refine mrg_out rfl ?_)))⟩
    rw [show xs.filter (fun i => !decide (i = a)) = but a xs from rfl, sub_D]
    (repeat' get_elem_tactic_trivial)
    refine call_ret (law_possible_eq true (sub fs (but a xs)) W (sub_ok h (fun i hi => hx i (but_mem.mp hi).1) (Nat.le_trans (List.length_filter_le _ _) (by omega)))) rfl ?_
    (repeat' get_elem_tactic_trivial)
    refine ⟨rfl, fun _ => (by (refine mrg_i ?_; repeat (first | exact mrg_nil | refine mrg_in rfl (by first | with_reducible assumption | rfl) ?_ | refine mrg_out rfl ?_))), fun _ => ?_⟩
    (repeat' get_elem_tactic_trivial)
    exact ⟨rfl, (by (refine mrg_i ?_; repeat (first | exact mrg_nil | refine mrg_in rfl (by first | with_reducible assumption | rfl) ?_ | refine mrg_out rfl ?_)))⟩
  (repeat' get_elem_tactic_trivial)
  refine wO_some (gEq_nilS (k := 0) (gd_map (fun a => gd_int 0 _) _) (by omega)) ?_
  (repeat' get_elem_tactic_trivial)
  refine ⟨rfl, rfl, _, rfl, ?_⟩
  rw [List.isEmpty_map, List.isEmpty_iff, List.filter_eq_nil_iff, cv_nat]
  constructor
  · intro z
    exact ⟨hup, hx, g3, fun a ha => by simpa using z a ha⟩
  · intro z a ha
    simp [z.ev a ha]
theorem law_clashes_ex (fs : List Fg) (os : List (Option Int)) (W : Wd) (h : FS fs) (hl : os.length ≤ 60) : ∃ t, F__law_clashes [.tup (fs.map fgD), .tup (os.map oD)] W = .ret false (.bl t) W ∧ (t = true ↔ Cv fs os) := by
  by_cases hn : none ∈ os
  · refine ⟨false, law_clashes_none fs os W hl hn, (fun z => by cases z), fun ⟨xs, e, z⟩ => ?_⟩
    rw [e] at hn
    unfold natO at hn
    simp at hn
  · obtain ⟨is, rfl⟩ := all_some os hn
    obtain ⟨t, e, h2⟩ := law_clashes_int fs is W h (by simpa using hl)
    rw [show (is.map some).map oD = is.map D.int by rw [List.map_map]; rfl]
    exact ⟨t, e, h2⟩
/-- of what is no tuple both say no -/
theorem is_clash_no (fs : List Fg) (d : D) (W : Wd) (h : FS fs) (hd : isTs [.tuple] d = some false) : F_is_clash [.tup (fs.map fgD), d] W = .ret false (.bl false) W := by
  refine ret_of ?_
  unfold F_is_clash f_is_clash
  refine wF_run rfl (by repeat (first | with_reducible exact st_0 | with_reducible apply st_d | with_reducible apply st_n)) ?_
  (repeat' get_elem_tactic_trivial)
  refine call_ret (checked_findings_eq false fs W h.ok) rfl ?_
  (repeat' get_elem_tactic_trivial)
  refine wO_isi hd ?_
  (repeat' get_elem_tactic_trivial)
  exact ⟨rfl, rfl, rfl⟩
theorem law_clashes_no (d0 d : D) (W : Wd) (hd : isTs [.tuple] d = some false) : F__law_clashes [d0, d] W = .ret false (.bl false) W := by
  refine ret_of ?_
  unfold F__law_clashes f__law_clashes
  refine wF_run rfl (by repeat (first | with_reducible exact st_0 | with_reducible apply st_d | with_reducible apply st_n)) ?_
  (repeat' get_elem_tactic_trivial)
  refine wO_isi hd ?_
  (repeat' get_elem_tactic_trivial)
  exact ⟨rfl, rfl, rfl⟩
end DL.K50
namespace DL.K50
open PySem PySem.Spec PyProof.Rows L2 DL
local macro_rules | `(tactic| get_elem_tactic_trivial) => `(tactic| first
  | with_reducible refine wS_seq ?_
  | with_reducible refine wS_set ?_
  | with_reducible refine wS_if ?_
  | with_reducible refine wS_ret ?_
  | with_reducible refine ret_st ?_
  | with_reducible refine ret_fr ?_
  | with_reducible refine wE_call ?_
  | with_reducible refine wA_cons ?_
  | with_reducible refine wA_nil ?_
  | with_reducible refine wE_evC ?_
  | ((with_reducible refine v_M ?_); refine vM_a rfl (by repeat (first | with_reducible exact set_0 | with_reducible apply set_s)) ?_)
  | ((with_reducible refine b_M ?_); refine bM_i rfl ?_)
  | ((with_reducible refine m_M ?_); first | refine mM_s rfl ?_ | refine mM_o rfl (by repeat (first | with_reducible exact set_0 | with_reducible apply set_s)) ?_)
  | ((with_reducible refine p_Ms ?_); refine pM_s rfl (by repeat (first | with_reducible exact set_0 | with_reducible apply set_s)) ?_)
  | ((with_reducible refine p_Mf ?_); refine pM_f rfl (by repeat (first | with_reducible exact set_0 | with_reducible apply set_s)) ?_)
  | with_reducible refine wE_ev1 ?_
  | with_reducible refine wE_ev2 ?_
  | with_reducible refine wE_and ?_
  | with_reducible refine wE_or ?_
  | with_reducible refine wE_not ?_
  | with_reducible refine wE_tru ?_
  | with_reducible refine wE_if ?_
  | with_reducible refine wE_tup ?_
  | with_reducible refine wE_lst ?_
  | with_reducible refine wE_neg ?_
  | with_reducible refine wE_ev3 ?_
  | with_reducible refine wE_callK2 ?_
  | with_reducible refine wE_sl ?_
  | with_reducible refine wE_LRg ?_
  | with_reducible refine wE_TRg ?_
  | with_reducible refine wE_lc ?_
  | with_reducible refine wV_none ?_
  | with_reducible refine wV_some ?_
  | with_reducible refine And.intro st_nb ?_
  | with_reducible refine And.intro fr_nb ?_
  | with_reducible refine wS_nil ?_
  | with_reducible refine wS_for ?_
  | with_reducible refine wA_it ?_
  | with_reducible refine wA_en ?_
  | with_reducible refine wA_R1 ?_
  | with_reducible refine wA_R2 ?_
  | ((with_reducible show itK _ _ _ _); first | refine it_seq st_nb rfl ?_ | refine it_seq fr_nb rfl ?_)
  | ((with_reducible show enK _ _ _); first | refine en_seq rfl ?_)
  | ((with_reducible show isBl _ _); first | refine isBl_i rfl ?_)
  | ((with_reducible show isInt _ _); first | refine isInt_i rfl ?_)
  | ((with_reducible show isTru _ _); first | refine isTru_i rfl ?_)
  | ((with_reducible show lenB _ _); first | refine lenB_i (by first | omega | (simp <;> omega)) ?_ | fail)
  | ((with_reducible show in62 _ _); first | refine in62_i (by first | omega | with_reducible assumption) (by first | omega | with_reducible assumption) ?_ | fail)
  | ((with_reducible show inM _ _); first | refine inM_i (by first | omega | with_reducible assumption) (by first | omega | with_reducible assumption) ?_ | fail)
  | ((with_reducible show onBl _ _ _); first | with_reducible refine onBl_t ?_ | with_reducible refine onBl_f ?_ | with_reducible refine onBl_nt ?_ | with_reducible refine onBl_nf ?_ | with_reducible refine onBl_dt (by first | omega | with_reducible assumption) ?_ | with_reducible refine onBl_df (by first | omega | with_reducible assumption) ?_ | with_reducible refine onBl_ndt (by first | omega | with_reducible assumption) ?_ | with_reducible refine onBl_ndf (by first | omega | with_reducible assumption) ?_ | fail)
  | ((with_reducible show wpO (gAdd _ _) _); first | refine wO_add rfl rfl ?_ | refine wO_catT rfl rfl (by first | omega | (simp <;> omega)) ?_ | refine wO_catL rfl rfl (by first | omega | (simp <;> omega)) ?_ | refine wO_catT rfl rfl ?_ ?_ | refine wO_catL rfl rfl ?_ ?_)
  | ((with_reducible show wpO (gSubI _ _) _); first | refine wO_sub rfl rfl ?_)
  | ((with_reducible show wpO (gMul _ _) _); first | refine wO_mul rfl rfl (mulOk_small (by omega)) ?_ | refine wO_mul rfl rfl (by first | with_reducible assumption | rfl) ?_ | fail)
  | ((with_reducible show wpO (gFdiv _ _) _); first | refine wO_fdiv rfl rfl (fdivOk_small (by omega)) ?_ | refine wO_fdiv rfl rfl (by first | with_reducible assumption | rfl) ?_ | fail)
  | ((with_reducible show wpO (gMod _ _) _); first | refine wO_mod rfl rfl (by first | omega | with_reducible assumption) ?_ | fail)
  | ((with_reducible show wpO (gLt _ _) _); first | refine wO_lt rfl rfl ?_)
  | ((with_reducible show wpO (gLe _ _) _); first | refine wO_le rfl rfl ?_)
  | ((with_reducible show wpO (gGt _ _) _); first | refine wO_gt rfl rfl ?_)
  | ((with_reducible show wpO (gGe _ _) _); first | refine wO_ge rfl rfl ?_)
  | ((with_reducible show wpO (gEq _ _) _); first | refine wO_eqI rfl rfl ?_ | refine wO_eqB rfl rfl ?_)
  | ((with_reducible show wpO (gNe _ _) _); first | refine wO_neI rfl rfl ?_ | refine wO_neB rfl rfl ?_)
  | with_reducible refine wO_isN ?_
  | with_reducible refine wO_notN ?_
  | ((with_reducible show wpO (gIsB _ _) _); first | refine wO_isB rfl rfl ?_)
  | ((with_reducible show wpO (gLen _) _); first | refine wO_lenm rfl ?_ | refine wO_len rfl ?_)
  | ((with_reducible show wpO (gList _) _); first | refine wO_list rfl ?_)
  | ((with_reducible show wpO (gTuple _) _); first | refine wO_tuple rfl ?_)
  | ((with_reducible show wpO (gInt _) _); first | refine wO_int rfl ?_)
  | ((with_reducible show wpO (gAbs _) _); first | refine wO_abs rfl ?_)
  | ((with_reducible show wpO (gMax2 _ _) _); first | refine wO_max2 rfl rfl ?_)
  | ((with_reducible show wpO (gMin2 _ _) _); first | refine wO_min2 rfl rfl ?_)
  | ((with_reducible show wpO (gIx _ _) _); first | refine wO_ix rfl rfl (by first | omega | with_reducible assumption) ?_ | refine wO_ix_last rfl rfl (by first | with_reducible assumption | simp) ?_ | refine wO_ixi rfl rfl (by first | omega | with_reducible assumption) ?_ | refine wO_ixl rfl ?_)
  | ((with_reducible show wpO (gIsi _ _) _); first | refine wO_isi rfl ?_)
  | ((with_reducible show wpO (gSl _ _ _) _); first | refine wO_slL rfl ?_ | refine wO_slT rfl ?_)
  | ((with_reducible show wpO (gRev _) _); first | refine wO_revL rfl ?_ | refine wO_revT rfl ?_)
  | with_reducible refine wO_rep_non ?_
  | ((with_reducible show wpO (gRep0 _) _); first | refine wO_rep_bl rfl ?_)
  | with_reducible refine wO_all ?_
  | with_reducible refine wO_any ?_
  | with_reducible refine wS_parK ?_
  | with_reducible refine wS_par3 ?_
  | with_reducible refine wS_asg ?_
  | with_reducible refine wC_cons ?_
  | with_reducible refine wC_nil ?_
  | with_reducible refine wS_putI ?_
  | with_reducible refine wS_swapI ?_
  | with_reducible refine swap_i ?_
  | with_reducible refine wS_drop ?_
  | with_reducible refine wS_retN ?_
  | with_reducible refine wS_brk ?_
  | with_reducible refine wS_cnt ?_
  | ((with_reducible show par3K _ _ _ _ _ _); first | refine par3_st (lt_of_ble rfl) (lt_of_ble rfl) (lt_of_ble rfl) (by repeat (first | with_reducible exact set_0 | with_reducible apply set_s)) (by repeat (first | with_reducible exact set_0 | with_reducible apply set_s)) (by repeat (first | with_reducible exact set_0 | with_reducible apply set_s)) ?_)
  | ((with_reducible show wpC (tgTup _ _ _ _) _); first | refine wC_tup rfl rfl ?_)
  | ((with_reducible show wpC (tgUnl _ _ _ _) _); first | refine wC_unl rfl rfl ?_)
  | ((with_reducible refine t_M ?_); refine tM_i rfl (by repeat (first | with_reducible exact set_0 | with_reducible apply set_s)) ?_)
  | ((with_reducible show wpS (sApp _ _ _) _); first | refine wS_app rfl ?_)
  | ((with_reducible show appK _ _ _ _ _); first | refine app_st (by first | exact st_nb | exact fr_nb) rfl (by first | omega | (simp <;> omega)) (by repeat (first | with_reducible exact set_0 | with_reducible apply set_s)) ?_ | fail)
  | ((with_reducible show ownK _ _ _); first | refine own_i rfl ?_)
  | ((with_reducible show wpS (sAppPop _ _ _ _) _); first | refine wS_appPop rfl rfl ?_))
/-! ### the draws -/
theorem law_of_ex {α : Type} [Inhabited α] (e : α → D) (xs : List α) (W : Wd) (hW : WOk1 W) (h0 : xs ≠ []) (hl : xs.length ≤ 1000) : ∃ x ∈ xs, ∃ W', WOk1 W' ∧ F__law_of [.deal, .lst (xs.map e)] W = .ret false (e x) W' := by
  have hp : 0 < xs.length := List.length_pos_iff.mpr h0
  obtain ⟨k, W1, hk, hW1, e1⟩ := any_ex hW hp (by omega)
  refine ⟨xs.getD k default, getD_mem hk, W1, hW1, ret_of ?_⟩
  unfold F__law_of f__law_of
  refine wF_run rfl (by repeat (first | with_reducible exact st_0 | with_reducible apply st_d | with_reducible apply st_n)) ?_
  (repeat' get_elem_tactic_trivial)
  refine call_ret e1 rfl ?_
  (repeat' get_elem_tactic_trivial)
  exact ⟨rfl, rfl, rfl⟩
theorem erase_perm {α : Type} : ∀ {xs : List α} {k : Nat} {x : α}, xs[k]? = some x → (x :: xs.eraseIdx k).Perm xs
  | [], k, x, h => by simp at h
  | y :: xs, 0, x, h => by
    simp at h
    subst h
    exact List.Perm.refl _
  | y :: xs, k + 1, x, h => by
    have := erase_perm (xs := xs) (k := k) (x := x) (by simpa using h)
    rw [List.eraseIdx_cons_succ]
    exact (List.Perm.swap y x _).trans (this.cons y)
theorem erase_map {α β : Type} (f : α → β) : ∀ (xs : List α) (k : Nat), (xs.map f).eraseIdx k = (xs.eraseIdx k).map f
  | [], k => by simp
  | x :: xs, 0 => rfl
  | x :: xs, k + 1 => by rw [List.map_cons, List.eraseIdx_cons_succ, List.eraseIdx_cons_succ, erase_map f xs k, List.map_cons]
theorem mixed_ex {α : Type} [Inhabited α] (e : α → D) (m : Nat) (hg : ∀ a, Gd m (e a)) (hm : m ≤ 60) (b : Bool) (xs : List α) (W : Wd) (hW : WOk1 W) (hl : xs.length ≤ 1000) : ∃ ys : List α, ys.Perm xs ∧ ∃ W', WOk1 W' ∧ F__law_mixed [.deal, sqD b (xs.map e)] W = .ret true (.lst (ys.map e)) W' := by
  suffices hz : wpF (F__law_mixed [.deal, sqD b (xs.map e)] W) (fun fr d W' => fr = true ∧ WOk1 W' ∧ ∃ ys : List α, ys.Perm xs ∧ d = .lst (ys.map e)) (fun _ _ => False) by
    obtain ⟨fr, d, W', e, rfl, h1, ys, h2, rfl⟩ := wpF_ex hz
    exact ⟨ys, h2, W', h1, e⟩
  unfold F__law_mixed f__law_mixed
  refine wF_run rfl (by repeat (first | with_reducible exact st_0 | with_reducible apply st_d | with_reducible apply st_n)) ?_
  (repeat' get_elem_tactic_trivial)
  refine wO_list (a := xs.map e) (by cases b <;> rfl) ?_
  (repeat' get_elem_tactic_trivial)
  generalize hd : sqD b (xs.map e) = d0
  refine wS_while (fun c => ∃ (ls ys : List α) (W' : Wd), c = ⟨[some (false, .deal), some (false, d0), some (true, .lst (ls.map e)), some (true, .lst (ys.map e))], W'⟩ ∧ (ys ++ ls).Perm xs ∧ WOk1 W') (fun c => match ownL c 2 with | some ds => ds.length | none => 0) ⟨xs, [], W, rfl, by simp, hW⟩ (by
    show (xs.map e).length < (xs.map e).length + 2
    omega) (fun c hI => ?_)
  obtain ⟨ls, ys, W', rfl, hp, hW'⟩ := hI
  have hlen : ys.length + ls.length = xs.length := by simpa using hp.length_eq
  (repeat' get_elem_tactic_trivial)
  refine wO_some (gNe_nilS (gd_map hg ls) hm) ?_
  rw [List.isEmpty_map]
  refine onBl_n (fun g => ?_) (fun g => ?_)
  · have h0 : 0 < ls.length := by
      cases ls with
      | nil => cases g
      | cons a b => simp
    obtain ⟨k, W1, hk, hW1, e1⟩ := any_ex hW' h0 (by omega)
    (repeat' get_elem_tactic_trivial)
    refine call_ret e1 rfl ?_
    have hk2 : ls[k]? = some (ls[k]'hk) := List.getElem?_eq_getElem hk
    refine appPop_st (ds := ls.map e) (m := k) (e := e (ls[k]'hk)) (es := ys.map e) rfl (by simp; omega) (ixN_natD (by simpa using hk)) (by rw [List.getElem?_map, hk2]; rfl) (by repeat (first | with_reducible exact set_0 | with_reducible apply set_s)) rfl (by simp; omega) (by repeat (first | with_reducible exact set_0 | with_reducible apply set_s)) ?_
    refine ⟨⟨ls.eraseIdx k, ys ++ [ls[k]'hk], W1, ?_, ?_, hW1⟩, ?_⟩
    · rw [List.map_append, erase_map]
      rfl
    · rw [List.append_assoc]
      exact ((erase_perm hk2).append_left ys).trans hp
    · show ((ls.map e).eraseIdx k).length < (ls.map e).length
      rw [List.length_eraseIdx]
      rw [if_pos (by simpa using hk)]
      simp
      omega
  · (repeat' get_elem_tactic_trivial)
    refine ⟨rfl, hW', ys, ?_, rfl⟩
    rw [List.isEmpty_iff.mp g, List.append_nil] at hp
    exact hp
theorem pm_perm {p q : List Nat} (h : q.Perm p) (hp : Pm p) : Pm q := ⟨h.nodup_iff.mpr hp.nd, fun x hx => by rw [h.length_eq]; exact hp.lt x (h.mem_iff.mp hx), by rw [h.length_eq]; exact hp.sz⟩
theorem pm_range {n : Nat} (h : n ≤ 1000) : Pm (List.range n) := ⟨List.nodup_range, fun x hx => by rw [List.length_range]; exact List.mem_range.mp hx, by rw [List.length_range]; exact h⟩
theorem cut_nn {α : Type} (e : α → D) (xs : List α) (a b : Nat) (h : a ≤ b) (hb : b ≤ xs.length) : cutD (xs.map e) (some (a : Int)) (some (b : Int)) = ((xs.drop a).take (b - a)).map e := by
  unfold cutD
  rw [HT.sIx_nat, HT.sIx_nat, List.length_map, Nat.min_eq_left hb, Nat.min_eq_left (by omega), List.map_take, List.map_drop]
theorem cut_0n {α : Type} (e : α → D) (xs : List α) (b : Nat) (hb : b ≤ xs.length) : cutD (xs.map e) none (some (b : Int)) = (xs.take b).map e := by
  unfold cutD
  rw [HT.sIx_none, HT.sIx_nat, List.length_map, Nat.min_eq_left hb, List.drop_zero, Nat.sub_zero, List.map_take]
theorem cut_n0 {α : Type} (e : α → D) (xs : List α) (a : Nat) (ha : a ≤ xs.length) : cutD (xs.map e) (some (a : Int)) none = (xs.drop a).map e := by
  unfold cutD
  rw [HT.sIx_none, HT.sIx_nat, List.length_map, Nat.min_eq_left ha, ← List.map_drop]
  exact List.take_of_length_le (by simp)
theorem cutD_len (ds : List D) (lo hi : Option Int) : (cutD ds lo hi).length ≤ ds.length := by
  unfold cutD
  simp
  omega
/-- two entries exchanged -/
theorem swap_perm {p : List Nat} {i j : Nat} (hij : i < j) (hj : j < p.length) : (p.take i ++ [p.getD j default] ++ (p.drop (i + 1)).take (j - (i + 1)) ++ [p.getD i default] ++ p.drop (j + 1)).Perm p := by
  have hi : i < p.length := by omega
  have e1 : p.getD i default = p[i] := by simp [List.getD_eq_getElem?_getD, hi]
  have e2 : p.getD j default = p[j] := by simp [List.getD_eq_getElem?_getD, hj]
  rw [e1, e2]
  have hp : p = p.take i ++ p[i] :: ((p.drop (i + 1)).take (j - (i + 1)) ++ p[j] :: p.drop (j + 1)) := by
    have h1 : p.drop (i + 1) = (p.drop (i + 1)).take (j - (i + 1)) ++ p[j] :: p.drop (j + 1) := by
      have h2 := (List.take_append_drop (j - (i + 1)) (p.drop (i + 1))).symm
      rw [List.drop_drop, show i + 1 + (j - (i + 1)) = j by omega, List.drop_eq_getElem_cons hj] at h2
      exact h2
    have h3 := (List.take_append_drop i p).symm
    rw [List.drop_eq_getElem_cons hi, h1] at h3
    exact h3
  generalize p[i] = a at hp ⊢
  generalize p[j] = b at hp ⊢
  generalize p.take i = A at hp ⊢
  generalize (p.drop (i + 1)).take (j - (i + 1)) = B at hp ⊢
  generalize p.drop (j + 1) = C at hp ⊢
  rw [hp]
  simp only [List.append_assoc, List.singleton_append]
  refine List.Perm.append_left A ?_
  have h1 : (b :: (B ++ a :: C)).Perm (b :: a :: (B ++ C)) := (List.perm_middle).cons b
  have h2 : (a :: (B ++ b :: C)).Perm (a :: b :: (B ++ C)) := (List.perm_middle).cons a
  exact h1.trans ((List.Perm.swap a b _).trans h2.symm)
theorem near_ex (p : List Nat) (W : Wd) (hW : WOk1 W) (hp : Pm p) (h2 : 2 ≤ p.length) : ∃ q : List Nat, q.Perm p ∧ ∃ W', WOk1 W' ∧ F__law_near [.deal, pD p] W = .ret false (pD q) W' := by
  have hl := hp.sz
  obtain ⟨i, W1, hi, hW1, e1⟩ := any_ex hW (n := p.length - 1) (by omega) (by omega)
  obtain ⟨k, W2, hk, hW2, e2⟩ := any_ex hW1 (n := p.length - 1 - i) (by omega) (by omega)
  have c1 : ((p.length - 1 : Nat) : Int) = (p.length : Int) - 1 := by omega
  have c2 : ((p.length - 1 - i : Nat) : Int) = (p.length : Int) - 1 - (i : Int) := by omega
  rw [c1] at e1
  rw [c2] at e2
  have l1 := cutD_len (p.map nD) none (some (i : Int))
  have l2 := cutD_len (p.map nD) (some ((i : Int) + 1)) (some ((i : Int) + 1 + (k : Int)))
  have l3 := cutD_len (p.map nD) (some ((i : Int) + 1 + (k : Int) + 1)) none
  rw [List.length_map] at l1 l2 l3
  refine ⟨_, swap_perm (i := i) (j := i + 1 + k) (by omega) (by omega), W2, hW2, ret_of ?_⟩
  unfold F__law_near f__law_near
  refine wF_run rfl (by repeat (first | with_reducible exact st_0 | with_reducible apply st_d | with_reducible apply st_n)) ?_
  (repeat' get_elem_tactic_trivial)
  refine call_ret e1 rfl ?_
  (repeat' get_elem_tactic_trivial)
  refine call_ret e2 rfl ?_
  (repeat' get_elem_tactic_trivial)
  refine ⟨rfl, ?_, rfl⟩
  rw [show (i : Int) + 1 + (k : Int) = ((i + 1 + k : Nat) : Int) by omega, show (i : Int) + 1 = ((i + 1 : Nat) : Int) by omega, show ((i + 1 + k : Nat) : Int) + 1 = ((i + 1 + k + 1 : Nat) : Int) by omega, cut_0n nD p i (by omega), cut_nn nD p (i + 1) (i + 1 + k) (by omega) (by omega), cut_n0 nD p _ (by omega), Int.toNat_natCast]
  unfold pD
  simp only [List.map_append, List.map_cons, List.map_nil]
end DL.K50
namespace DL.K50
open PySem PySem.Spec PyProof.Rows L2 DL
local macro_rules | `(tactic| get_elem_tactic_trivial) => `(tactic| first
  | with_reducible refine wS_seq ?_
  | with_reducible refine wS_set ?_
  | with_reducible refine wS_if ?_
  | with_reducible refine wS_ret ?_
  | with_reducible refine ret_st ?_
  | with_reducible refine ret_fr ?_
  | with_reducible refine wE_call ?_
  | with_reducible refine wA_cons ?_
  | with_reducible refine wA_nil ?_
  | with_reducible refine wE_evC ?_
  | ((with_reducible refine v_M ?_); refine vM_a rfl (by repeat (first | with_reducible exact set_0 | with_reducible apply set_s)) ?_)
  | ((with_reducible refine b_M ?_); refine bM_i rfl ?_)
  | ((with_reducible refine m_M ?_); first | refine mM_s rfl ?_ | refine mM_o rfl (by repeat (first | with_reducible exact set_0 | with_reducible apply set_s)) ?_)
  | ((with_reducible refine p_Ms ?_); refine pM_s rfl (by repeat (first | with_reducible exact set_0 | with_reducible apply set_s)) ?_)
  | ((with_reducible refine p_Mf ?_); refine pM_f rfl (by repeat (first | with_reducible exact set_0 | with_reducible apply set_s)) ?_)
  | with_reducible refine wE_ev1 ?_
  | with_reducible refine wE_ev2 ?_
  | with_reducible refine wE_and ?_
  | with_reducible refine wE_or ?_
  | with_reducible refine wE_not ?_
  | with_reducible refine wE_tru ?_
  | with_reducible refine wE_if ?_
  | with_reducible refine wE_tup ?_
  | with_reducible refine wE_lst ?_
  | with_reducible refine wE_neg ?_
  | with_reducible refine wE_ev3 ?_
  | with_reducible refine wE_callK2 ?_
  | with_reducible refine wE_sl ?_
  | with_reducible refine wE_LRg ?_
  | with_reducible refine wE_TRg ?_
  | with_reducible refine wE_lc ?_
  | with_reducible refine wV_none ?_
  | with_reducible refine wV_some ?_
  | with_reducible refine And.intro st_nb ?_
  | with_reducible refine And.intro fr_nb ?_
  | with_reducible refine wS_nil ?_
  | with_reducible refine wS_for ?_
  | with_reducible refine wA_it ?_
  | with_reducible refine wA_en ?_
  | with_reducible refine wA_R1 ?_
  | with_reducible refine wA_R2 ?_
  | ((with_reducible show itK _ _ _ _); first | refine it_seq st_nb rfl ?_ | refine it_seq fr_nb rfl ?_)
  | ((with_reducible show enK _ _ _); first | refine en_seq rfl ?_)
  | ((with_reducible show isBl _ _); first | refine isBl_i rfl ?_)
  | ((with_reducible show isInt _ _); first | refine isInt_i rfl ?_)
  | ((with_reducible show isTru _ _); first | refine isTru_i rfl ?_)
  | ((with_reducible show lenB _ _); first | refine lenB_i (by first | omega | (simp <;> omega)) ?_ | fail)
  | ((with_reducible show in62 _ _); first | refine in62_i (by first | omega | with_reducible assumption) (by first | omega | with_reducible assumption) ?_ | fail)
  | ((with_reducible show inM _ _); first | refine inM_i (by first | omega | with_reducible assumption) (by first | omega | with_reducible assumption) ?_ | fail)
  | ((with_reducible show onBl _ _ _); first | with_reducible refine onBl_t ?_ | with_reducible refine onBl_f ?_ | with_reducible refine onBl_nt ?_ | with_reducible refine onBl_nf ?_ | with_reducible refine onBl_dt (by first | omega | with_reducible assumption) ?_ | with_reducible refine onBl_df (by first | omega | with_reducible assumption) ?_ | with_reducible refine onBl_ndt (by first | omega | with_reducible assumption) ?_ | with_reducible refine onBl_ndf (by first | omega | with_reducible assumption) ?_ | fail)
  | ((with_reducible show wpO (gAdd _ _) _); first | refine wO_add rfl rfl ?_ | refine wO_catT rfl rfl (by first | omega | (simp <;> omega)) ?_ | refine wO_catL rfl rfl (by first | omega | (simp <;> omega)) ?_ | refine wO_catT rfl rfl ?_ ?_ | refine wO_catL rfl rfl ?_ ?_)
  | ((with_reducible show wpO (gSubI _ _) _); first | refine wO_sub rfl rfl ?_)
  | ((with_reducible show wpO (gMul _ _) _); first | refine wO_mul rfl rfl (mulOk_small (by omega)) ?_ | refine wO_mul rfl rfl (by first | with_reducible assumption | rfl) ?_ | fail)
  | ((with_reducible show wpO (gFdiv _ _) _); first | refine wO_fdiv rfl rfl (fdivOk_small (by omega)) ?_ | refine wO_fdiv rfl rfl (by first | with_reducible assumption | rfl) ?_ | fail)
  | ((with_reducible show wpO (gMod _ _) _); first | refine wO_mod rfl rfl (by first | omega | with_reducible assumption) ?_ | fail)
  | ((with_reducible show wpO (gLt _ _) _); first | refine wO_lt rfl rfl ?_)
  | ((with_reducible show wpO (gLe _ _) _); first | refine wO_le rfl rfl ?_)
  | ((with_reducible show wpO (gGt _ _) _); first | refine wO_gt rfl rfl ?_)
  | ((with_reducible show wpO (gGe _ _) _); first | refine wO_ge rfl rfl ?_)
  | ((with_reducible show wpO (gEq _ _) _); first | refine wO_eqI rfl rfl ?_ | refine wO_eqB rfl rfl ?_)
  | ((with_reducible show wpO (gNe _ _) _); first | refine wO_neI rfl rfl ?_ | refine wO_neB rfl rfl ?_)
  | with_reducible refine wO_isN ?_
  | with_reducible refine wO_notN ?_
  | ((with_reducible show wpO (gIsB _ _) _); first | refine wO_isB rfl rfl ?_)
  | ((with_reducible show wpO (gLen _) _); first | refine wO_lenm rfl ?_ | refine wO_len rfl ?_)
  | ((with_reducible show wpO (gList _) _); first | refine wO_list rfl ?_)
  | ((with_reducible show wpO (gTuple _) _); first | refine wO_tuple rfl ?_)
  | ((with_reducible show wpO (gInt _) _); first | refine wO_int rfl ?_)
  | ((with_reducible show wpO (gAbs _) _); first | refine wO_abs rfl ?_)
  | ((with_reducible show wpO (gMax2 _ _) _); first | refine wO_max2 rfl rfl ?_)
  | ((with_reducible show wpO (gMin2 _ _) _); first | refine wO_min2 rfl rfl ?_)
  | ((with_reducible show wpO (gIx _ _) _); first | refine wO_ix rfl rfl (by first | omega | with_reducible assumption) ?_ | refine wO_ix_last rfl rfl (by first | with_reducible assumption | simp) ?_ | refine wO_ixi rfl rfl (by first | omega | with_reducible assumption) ?_ | refine wO_ixl rfl ?_)
  | ((with_reducible show wpO (gIsi _ _) _); first | refine wO_isi rfl ?_)
  | ((with_reducible show wpO (gSl _ _ _) _); first | refine wO_slL rfl ?_ | refine wO_slT rfl ?_)
  | ((with_reducible show wpO (gRev _) _); first | refine wO_revL rfl ?_ | refine wO_revT rfl ?_)
  | with_reducible refine wO_rep_non ?_
  | ((with_reducible show wpO (gRep0 _) _); first | refine wO_rep_bl rfl ?_)
  | with_reducible refine wO_all ?_
  | with_reducible refine wO_any ?_
  | with_reducible refine wS_parK ?_
  | with_reducible refine wS_par3 ?_
  | with_reducible refine wS_asg ?_
  | with_reducible refine wC_cons ?_
  | with_reducible refine wC_nil ?_
  | with_reducible refine wS_putI ?_
  | with_reducible refine wS_swapI ?_
  | with_reducible refine swap_i ?_
  | with_reducible refine wS_drop ?_
  | with_reducible refine wS_retN ?_
  | with_reducible refine wS_brk ?_
  | with_reducible refine wS_cnt ?_
  | ((with_reducible show par3K _ _ _ _ _ _); first | refine par3_st (lt_of_ble rfl) (lt_of_ble rfl) (lt_of_ble rfl) (by repeat (first | with_reducible exact set_0 | with_reducible apply set_s)) (by repeat (first | with_reducible exact set_0 | with_reducible apply set_s)) (by repeat (first | with_reducible exact set_0 | with_reducible apply set_s)) ?_)
  | ((with_reducible show wpC (tgTup _ _ _ _) _); first | refine wC_tup rfl rfl ?_)
  | ((with_reducible show wpC (tgUnl _ _ _ _) _); first | refine wC_unl rfl rfl ?_)
  | ((with_reducible refine t_M ?_); refine tM_i rfl (by repeat (first | with_reducible exact set_0 | with_reducible apply set_s)) ?_)
  | ((with_reducible show wpS (sApp _ _ _) _); first | refine wS_app rfl ?_)
  | ((with_reducible show appK _ _ _ _ _); first | refine app_st (by first | exact st_nb | exact fr_nb) rfl (by first | omega | (simp <;> omega)) (by repeat (first | with_reducible exact set_0 | with_reducible apply set_s)) ?_ | fail)
  | ((with_reducible show ownK _ _ _); first | refine own_i rfl ?_)
  | ((with_reducible show wpS (sAppPop _ _ _ _) _); first | refine wS_appPop rfl rfl ?_))
theorem lets_ex (p : List Nat) (t : T3) (W : Wd) (h : p.length ≤ 1000) (ht : 0 < t.2.2) : ∃ b, F__law_lets [pD p, tD t] W = .ret false (.bl b) W := by
  suffices hz : wpF (F__law_lets [pD p, tD t] W) (fun fr d W' => fr = false ∧ W' = W ∧ ∃ b, d = .bl b) (fun _ _ => False) by
    obtain ⟨fr, d, W', e, rfl, rfl, b, rfl⟩ := wpF_ex hz
    exact ⟨b, e⟩
  unfold F__law_lets f__law_lets
  refine wF_run rfl (by repeat (first | with_reducible exact st_0 | with_reducible apply st_d | with_reducible apply st_n)) ?_
  (repeat' get_elem_tactic_trivial)
  refine for_enum nD p (fun done rest c => ∃ x5 x6, c = ⟨[some (false, pD p), some (false, tD t), some (false, nD t.1), some (false, nD t.2.1), some (false, nD t.2.2), x5, x6], W⟩) ⟨none, none, rfl⟩ (fun done x rest c hx hI => ?_) (fun c hI => ?_)
  · obtain ⟨x5, x6, rfl⟩ := hI
    (repeat' get_elem_tactic_trivial)
    refine onBl_nd (fun g => ?_) (fun g => ?_)
    · (repeat' get_elem_tactic_trivial)
      refine onBl_d (fun g1 => ?_) (fun g1 => ?_)
      · (repeat' get_elem_tactic_trivial)
        exact ⟨rfl, rfl, false, rfl⟩
      · (repeat' get_elem_tactic_trivial)
        refine onBl_d (fun g2 => ?_) (fun g2 => ?_)
        · (repeat' get_elem_tactic_trivial)
          exact ⟨rfl, rfl, false, rfl⟩
        · (repeat' get_elem_tactic_trivial)
          refine onBl_d (fun g3 => ?_) (fun g3 => ?_)
          · (repeat' get_elem_tactic_trivial)
            exact ⟨rfl, rfl, false, rfl⟩
          · (repeat' get_elem_tactic_trivial)
            exact ⟨_, _, rfl⟩
    · (repeat' get_elem_tactic_trivial)
      exact ⟨_, _, rfl⟩
  · obtain ⟨x5, x6, rfl⟩ := hI
    (repeat' get_elem_tactic_trivial)
    exact ⟨rfl, rfl, true, rfl⟩
/-! ### _law_reordering -/
theorem rngD_f (f n : Nat) : rngD (f : Int) n = ((List.range n).map fun i : Nat => f + i).map nD := by
  unfold rngD
  rw [List.map_map]
  refine List.map_congr_left fun i _ => ?_
  show D.int ((f : Int) + (i : Int)) = D.int ((f + i : Nat) : Int)
  rw [show (f : Int) + (i : Int) = ((f + i : Nat) : Int) by omega]
/-- the places of a lot -/
def lotN (f s m : Nat) (k : Nat) : List Nat := ((List.range m).map fun i : Nat => f + i).filter fun x => decide (((x : Int) - (f : Int)) % (s : Int) = (k : Int))
theorem lot_mem {f s m k x : Nat} : x ∈ lotN f s m k ↔ f ≤ x ∧ x < f + m ∧ (x - f) % s = k := by
  unfold lotN
  rw [List.mem_filter, List.mem_map]
  simp only [List.mem_range, decide_eq_true_eq]
  constructor
  · rintro ⟨⟨i, hi, rfl⟩, h⟩
    rw [show ((f + i : Nat) : Int) - (f : Int) = (i : Int) by omega] at h
    refine ⟨by omega, by omega, ?_⟩
    rw [Nat.add_sub_cancel_left]
    omega
  · rintro ⟨h1, h2, h3⟩
    refine ⟨⟨x - f, by omega, by omega⟩, ?_⟩
    rw [show (x : Int) - (f : Int) = ((x - f : Nat) : Int) by omega]
    omega
theorem lot_nd {f s m k : Nat} : (lotN f s m k).Nodup := by
  unfold lotN
  refine List.Pairwise.filter _ ?_
  rw [List.pairwise_map]
  exact List.nodup_range.imp fun h z => h (by omega)
theorem lot_len {f s m k : Nat} : (lotN f s m k).length ≤ m := by
  unfold lotN
  refine Nat.le_trans (List.length_filter_le _ _) ?_
  simp
/-- as far as the lots below k -/
structure RK (f s m n k : Nat) (p : List Nat) : Prop where
  len : p.length = n
  inn : ∀ i, i < n → f ≤ i → i < f + m → (i - f) % s < k → f ≤ p.getD i 0 ∧ p.getD i 0 < f + m ∧ (p.getD i 0 - f) % s = (i - f) % s
  out : ∀ i, i < n → ¬ (f ≤ i ∧ i < f + m ∧ (i - f) % s < k) → p.getD i 0 = i
  inj : ∀ i j, i < n → j < n → p.getD i 0 = p.getD j 0 → i = j
theorem rk_pm {f s m n k : Nat} {p : List Nat} (h : RK f s m n k p) (hm : f + m ≤ n) (hn : n ≤ 1000) : Pm p := by
  refine ⟨?_, fun x hx => ?_, by rw [h.len]; exact hn⟩
  · rw [List.nodup_iff_pairwise_ne, List.pairwise_iff_getElem]
    intro i j hi hj hij he
    rw [h.len] at hi hj
    have := h.inj i j hi hj (by
      rw [List.getD_eq_getElem?_getD, List.getD_eq_getElem?_getD, List.getElem?_eq_getElem (by rw [h.len]; exact hi), List.getElem?_eq_getElem (by rw [h.len]; exact hj)]
      exact he)
    omega
  · obtain ⟨i, hi, rfl⟩ := List.mem_iff_getElem.mp hx
    have hi' : i < n := by rw [← h.len]; exact hi
    have e : p[i] = p.getD i 0 := by simp [List.getD_eq_getElem?_getD, hi]
    rw [e, h.len]
    by_cases hc : f ≤ i ∧ i < f + m ∧ (i - f) % s < k
    · have := (h.inn i hi' hc.1 hc.2.1 hc.2.2).2.1
      omega
    · rw [h.out i hi' hc]
      exact hi'
theorem idx_mem {L : List Nat} {i : Nat} (h : i ∈ L) : ∃ j, j < L.length ∧ L.getD j 0 = i := by
  obtain ⟨j, hj, e⟩ := List.mem_iff_getElem.mp h
  exact ⟨j, hj, by simp [List.getD_eq_getElem?_getD, hj, e]⟩
theorem getD_mem0 {L : List Nat} {j : Nat} (h : j < L.length) : L.getD j 0 ∈ L := by
  rw [List.getD_eq_getElem?_getD, List.getElem?_eq_getElem h]
  exact List.getElem_mem h
theorem nd_getD {L : List Nat} (h : L.Nodup) {a b : Nat} (ha : a < L.length) (hb : b < L.length) (e : L.getD a 0 = L.getD b 0) : a = b := by
  rw [List.getD_eq_getElem?_getD, List.getD_eq_getElem?_getD, List.getElem?_eq_getElem ha, List.getElem?_eq_getElem hb] at e
  have h := List.pairwise_iff_getElem.mp h
  rcases Nat.lt_trichotomy a b with z | z | z
  · exact absurd e (h a b ha hb z)
  · exact z
  · exact absurd e.symm (h b a hb ha z)
theorem rk_step {f s m n k : Nat} {p q ys : List Nat} (h : RK f s m n k p) (hm : f + m ≤ n) (hy : ys.Perm (lotN f s m k)) (hq : q.length = n) (h1 : ∀ j, j < ys.length → q.getD ((lotN f s m k).getD j 0) 0 = ys.getD j 0) (h2 : ∀ i, i ∉ lotN f s m k → q.getD i 0 = p.getD i 0) : RK f s m n (k + 1) q := by
  have hlen := hy.length_eq
  have hL : ∀ i, i ∈ lotN f s m k → ∃ j, j < ys.length ∧ (lotN f s m k).getD j 0 = i ∧ q.getD i 0 = ys.getD j 0 ∧ ys.getD j 0 ∈ lotN f s m k := fun i hi => by
    obtain ⟨j, hj, e⟩ := idx_mem hi
    refine ⟨j, by omega, e, by rw [← h1 j (by omega), e], hy.mem_iff.mp (getD_mem0 (by omega))⟩
  have hN : ∀ i, i < n → i ∉ lotN f s m k → q.getD i 0 ∉ lotN f s m k := fun i hi hn z => by
    rw [h2 i hn] at z
    by_cases hc : f ≤ i ∧ i < f + m ∧ (i - f) % s < k
    · have := (h.inn i hi hc.1 hc.2.1 hc.2.2).2.2
      rw [(lot_mem.mp z).2.2] at this
      omega
    · rw [h.out i hi hc] at z
      exact hn z
  refine ⟨hq, fun i hi g1 g2 g3 => ?_, fun i hi g => ?_, fun i j hi hj e => ?_⟩
  · by_cases hk : (i - f) % s = k
    · obtain ⟨j, hj, _, e2, e3⟩ := hL i (lot_mem.mpr ⟨g1, g2, hk⟩)
      have := lot_mem.mp e3
      rw [e2, hk]
      exact this
    · rw [h2 i (fun z => hk (lot_mem.mp z).2.2)]
      exact h.inn i hi g1 g2 (by omega)
  · rw [h2 i (fun z => g (by have := lot_mem.mp z; omega))]
    exact h.out i hi (fun z => g (by omega))
  · by_cases c1 : i ∈ lotN f s m k
    · by_cases c2 : j ∈ lotN f s m k
      · obtain ⟨a, ha, ea, e2, _⟩ := hL i c1
        obtain ⟨b, hb, eb, e4, _⟩ := hL j c2
        rw [e2, e4] at e
        have := nd_getD (hy.nodup_iff.mpr lot_nd) ha hb e
        rw [← ea, ← eb, this]
      · obtain ⟨a, ha, ea, e2, e3⟩ := hL i c1
        rw [← e2, e] at e3
        exact absurd e3 (hN j hj c2)
    · by_cases c2 : j ∈ lotN f s m k
      · obtain ⟨a, ha, ea, e2, e3⟩ := hL j c2
        rw [← e2, ← e] at e3
        exact absurd e3 (hN i hi c1)
      · rw [h2 i c1, h2 j c2] at e
        exact h.inj i j hi hj e
theorem getD_set {q : List Nat} {a x i : Nat} (h : a < q.length) : (q.set a x).getD i 0 = if i = a then x else q.getD i 0 := by
  rw [List.getD_eq_getElem?_getD, List.getD_eq_getElem?_getD]
  by_cases hi : i = a
  · subst hi
    rw [if_pos rfl, List.getElem?_set_self h]
    rfl
  · rw [if_neg hi, List.getElem?_set_ne (fun z => hi z.symm)]
theorem getD_range {n i : Nat} (h : i < n) : (List.range n).getD i 0 = i := by
  rw [List.getD_eq_getElem?_getD, List.getElem?_range h]
  rfl
theorem reordering_ex (n : Nat) (t : T3) (W : Wd) (hW : WOk1 W) (hn : n ≤ 1000) (ht : t.1 + t.2.1 ≤ n) (hs : 0 < t.2.2) (hs2 : t.2.2 ≤ 1000) : ∃ p : List Nat, Pm p ∧ p.length = n ∧ ∃ W', WOk1 W' ∧ F__law_reordering [.deal, nD n, tD t] W = .ret false (pD p) W' := by
  suffices hz : wpF (F__law_reordering [.deal, nD n, tD t] W) (fun fr d W' => fr = false ∧ WOk1 W' ∧ ∃ p : List Nat, d = pD p ∧ Pm p ∧ p.length = n) (fun _ _ => False) by
    obtain ⟨fr, d, W', e, rfl, h1, p, rfl, h2, h3⟩ := wpF_ex hz
    exact ⟨p, h2, h3, W', h1, e⟩
  obtain ⟨m, hm⟩ : ∃ m, t.1 + m = n - t.2.1 := ⟨n - t.2.1 - t.1, by omega⟩
  unfold F__law_reordering f__law_reordering
  refine wF_run rfl (by repeat (first | with_reducible exact st_0 | with_reducible apply st_d | with_reducible apply st_n)) ?_
  (repeat' get_elem_tactic_trivial)
  rw [show rngD 0 ((n : Int)).toNat = (List.range n).map nD by rw [Int.toNat_natCast, rngD_0], Int.toNat_natCast]
  refine for_rng0 _ (fun k c => ∃ (p : List Nat) (x7 x8 x9 x10 : Option (Bool × D)) (W' : Wd), c = ⟨[some (false, .deal), some (false, nD n), some (false, tD t), some (false, nD t.1), some (false, nD t.2.1), some (false, nD t.2.2), some (true, .lst (p.map nD)), x7, x8, x9, x10], W'⟩ ∧ shOf x10 = x10 ∧ RK t.1 t.2.2 m n k p ∧ WOk1 W') ⟨List.range n, none, none, none, none, W, rfl, rfl, ⟨by simp, fun i _ _ _ z => absurd z (Nat.not_lt_zero _), fun i hi _ => getD_range hi, fun i j hi hj e => by rw [getD_range hi, getD_range hj] at e; exact e⟩, hW⟩ (fun k c hk hI => ?_) (fun c hI => ?_)
  · obtain ⟨p, x7, x8, x9, x10, W', rfl, h10, hR, hW'⟩ := hI
    (repeat' get_elem_tactic_trivial)
    rw [show ((n : Int) - (t.2.1 : Int) - (t.1 : Int)).toNat = m by omega, rngD_f]
    refine lc_eq nD (fun x => decide (((x : Int) - (t.1 : Int)) % (t.2.2 : Int) = (k : Int))) nD (by simp; omega) (by repeat (first | with_reducible exact wipe_nil | with_reducible apply wipe_cons | with_reducible exact set_0 | with_reducible apply set_s)) (fun x hx => ?_) ?_
    · (repeat' get_elem_tactic_trivial)
      refine ⟨rfl, fun _ => (by (refine mrg_i ?_; repeat (first | exact mrg_nil | refine mrg_in rfl (by first | with_reducible assumption | rfl) ?_ | refine mrg_out rfl ?_))), fun _ => ?_⟩
      (repeat' get_elem_tactic_trivial)
      exact ⟨rfl, (by (refine mrg_i ?_; repeat (first | exact mrg_nil | refine mrg_in rfl (by first | with_reducible assumption | rfl) ?_ | refine mrg_out rfl ?_)))⟩
    rw [show ((List.range m).map fun i : Nat => t.1 + i).filter (fun x : Nat => decide (((x : Int) - (t.1 : Int)) % (t.2.2 : Int) = (k : Int))) = lotN t.1 t.2.2 m k from rfl]
    (repeat' get_elem_tactic_trivial)
    have hll := lot_len (f := t.1) (s := t.2.2) (m := m) (k := k)
    obtain ⟨ys, hy, W1, hW1, e1⟩ := mixed_ex nD 0 (fun a => gd_int 0 _) (by omega) true (lotN t.1 t.2.2 m k) W' hW' (by omega)
    refine call_fr e1 rfl ?_
    (repeat' get_elem_tactic_trivial)
    have hyl := hy.length_eq
    refine for_enum nD ys (fun done rest c => ∃ (q : List Nat) (x9 x10 : Option (Bool × D)), c = ⟨[some (false, .deal), some (false, nD n), some (false, tD t), some (false, nD t.1), some (false, nD t.2.1), some (false, nD t.2.2), some (true, .lst (q.map nD)), some (false, nD k), some (false, .lst ((lotN t.1 t.2.2 m k).map nD)), x9, x10], W1⟩ ∧ shOf x10 = x10 ∧ q.length = n ∧ (∀ j, j < done.length → q.getD ((lotN t.1 t.2.2 m k).getD j 0) 0 = ys.getD j 0) ∧ ∀ i, i ∉ (lotN t.1 t.2.2 m k).take done.length → q.getD i 0 = p.getD i 0) ⟨p, x9, x10, rfl, h10, hR.len, fun j z => absurd z (Nat.not_lt_zero _), fun i _ => rfl⟩ (fun done x rest c hx hI => ?_) (fun c hI => ?_)
    · obtain ⟨q, x9, x10, rfl, h10, hq, g1, g2⟩ := hI
      have hd : done.length < ys.length := by rw [hx]; simp
      have hdl : done.length < (lotN t.1 t.2.2 m k).length := by omega
      have hxe : ys.getD done.length 0 = x := by rw [hx]; simp [List.getD_eq_getElem?_getD]
      have hlt : (lotN t.1 t.2.2 m k).getD done.length default < q.length := by
        have := lot_mem.mp (getD_mem0 hdl)
        rw [hq]
        show (lotN t.1 t.2.2 m k).getD done.length 0 < n
        omega
      (repeat' get_elem_tactic_trivial)
      refine putI_st (j := (lotN t.1 t.2.2 m k).getD done.length default) rfl (ixN_natD (by simpa using hlt)) (by repeat (first | with_reducible exact set_0 | with_reducible apply set_s)) ?_
      refine ⟨q.set ((lotN t.1 t.2.2 m k).getD done.length default) x, _, _, by rw [List.map_set], rfl, by simpa using hq, fun j hj => ?_, fun i hi => ?_⟩
      · rw [getD_set hlt]
        rw [List.length_append, List.length_singleton] at hj
        by_cases hjd : j = done.length
        · subst hjd
          exact (if_pos (show (lotN t.1 t.2.2 m k).getD done.length 0 = (lotN t.1 t.2.2 m k).getD done.length default from rfl)).trans hxe.symm
        · rw [if_neg (show ¬ (lotN t.1 t.2.2 m k).getD j 0 = (lotN t.1 t.2.2 m k).getD done.length default from fun z => hjd (nd_getD lot_nd (by omega) hdl z))]
          exact g1 j (by omega)
      · rw [getD_set hlt]
        rw [List.length_append, List.length_singleton] at hi
        have hne : i ≠ (lotN t.1 t.2.2 m k).getD done.length default := fun z => hi (by
          rw [z]
          have e : (lotN t.1 t.2.2 m k).getD done.length default = (lotN t.1 t.2.2 m k)[done.length]'hdl := by
            rw [List.getD_eq_getElem?_getD, List.getElem?_eq_getElem hdl]
            rfl
          rw [e]
          exact List.mem_take_iff_getElem.mpr ⟨done.length, by omega, rfl⟩)
        rw [if_neg hne]
        exact g2 i (fun z => hi (List.mem_of_mem_take (i := done.length) (by rw [List.take_take, Nat.min_eq_left (by omega)]; exact z)))
    · obtain ⟨q, x9, x10, rfl, h10, hq, g1, g2⟩ := hI
      refine ⟨q, _, _, x9, x10, W1, rfl, h10, rk_step hR (by omega) hy hq g1 (fun i hi => g2 i (fun z => hi (List.mem_of_mem_take z))), hW1⟩
  · obtain ⟨p, x7, x8, x9, x10, W', rfl, h10, hR, hW'⟩ := hI
    (repeat' get_elem_tactic_trivial)
    exact ⟨rfl, hW', p, rfl, rk_pm hR (by omega) hn, hR.len⟩
end DL.K50
namespace DL.K50
open PySem PySem.Spec PyProof.Rows L2 DL
local macro_rules | `(tactic| get_elem_tactic_trivial) => `(tactic| first
  | with_reducible refine wS_seq ?_
  | with_reducible refine wS_set ?_
  | with_reducible refine wS_if ?_
  | with_reducible refine wS_ret ?_
  | with_reducible refine ret_st ?_
  | with_reducible refine ret_fr ?_
  | with_reducible refine wE_call ?_
  | with_reducible refine wA_cons ?_
  | with_reducible refine wA_nil ?_
  | with_reducible refine wE_evC ?_
  | ((with_reducible refine v_M ?_); refine vM_a rfl (by repeat (first | with_reducible exact set_0 | with_reducible apply set_s)) ?_)
  | ((with_reducible refine b_M ?_); refine bM_i rfl ?_)
  | ((with_reducible refine m_M ?_); first | refine mM_s rfl ?_ | refine mM_o rfl (by repeat (first | with_reducible exact set_0 | with_reducible apply set_s)) ?_)
  | ((with_reducible refine p_Ms ?_); refine pM_s rfl (by repeat (first | with_reducible exact set_0 | with_reducible apply set_s)) ?_)
  | ((with_reducible refine p_Mf ?_); refine pM_f rfl (by repeat (first | with_reducible exact set_0 | with_reducible apply set_s)) ?_)
  | with_reducible refine wE_ev1 ?_
  | with_reducible refine wE_ev2 ?_
  | with_reducible refine wE_and ?_
  | with_reducible refine wE_or ?_
  | with_reducible refine wE_not ?_
  | with_reducible refine wE_tru ?_
  | with_reducible refine wE_if ?_
  | with_reducible refine wE_tup ?_
  | with_reducible refine wE_lst ?_
  | with_reducible refine wE_neg ?_
  | with_reducible refine wE_ev3 ?_
  | with_reducible refine wE_callK2 ?_
  | with_reducible refine wE_sl ?_
  | with_reducible refine wE_LRg ?_
  | with_reducible refine wE_TRg ?_
  | with_reducible refine wE_lc ?_
  | with_reducible refine wV_none ?_
  | with_reducible refine wV_some ?_
  | with_reducible refine And.intro st_nb ?_
  | with_reducible refine And.intro fr_nb ?_
  | with_reducible refine wS_nil ?_
  | with_reducible refine wS_for ?_
  | with_reducible refine wA_it ?_
  | with_reducible refine wA_en ?_
  | with_reducible refine wA_R1 ?_
  | with_reducible refine wA_R2 ?_
  | ((with_reducible show itK _ _ _ _); first | refine it_seq st_nb rfl ?_ | refine it_seq fr_nb rfl ?_)
  | ((with_reducible show enK _ _ _); first | refine en_seq rfl ?_)
  | ((with_reducible show isBl _ _); first | refine isBl_i rfl ?_)
  | ((with_reducible show isInt _ _); first | refine isInt_i rfl ?_)
  | ((with_reducible show isTru _ _); first | refine isTru_i rfl ?_)
  | ((with_reducible show lenB _ _); first | refine lenB_i (by first | omega | (simp <;> omega)) ?_ | fail)
  | ((with_reducible show in62 _ _); first | refine in62_i (by first | omega | with_reducible assumption) (by first | omega | with_reducible assumption) ?_ | fail)
  | ((with_reducible show inM _ _); first | refine inM_i (by first | omega | with_reducible assumption) (by first | omega | with_reducible assumption) ?_ | fail)
  | ((with_reducible show onBl _ _ _); first | with_reducible refine onBl_t ?_ | with_reducible refine onBl_f ?_ | with_reducible refine onBl_nt ?_ | with_reducible refine onBl_nf ?_ | with_reducible refine onBl_dt (by first | omega | with_reducible assumption) ?_ | with_reducible refine onBl_df (by first | omega | with_reducible assumption) ?_ | with_reducible refine onBl_ndt (by first | omega | with_reducible assumption) ?_ | with_reducible refine onBl_ndf (by first | omega | with_reducible assumption) ?_ | fail)
  | ((with_reducible show wpO (gAdd _ _) _); first | refine wO_add rfl rfl ?_ | refine wO_catT rfl rfl (by first | omega | (simp <;> omega)) ?_ | refine wO_catL rfl rfl (by first | omega | (simp <;> omega)) ?_ | refine wO_catT rfl rfl ?_ ?_ | refine wO_catL rfl rfl ?_ ?_)
  | ((with_reducible show wpO (gSubI _ _) _); first | refine wO_sub rfl rfl ?_)
  | ((with_reducible show wpO (gMul _ _) _); first | refine wO_mul rfl rfl (mulOk_small (by omega)) ?_ | refine wO_mul rfl rfl (by first | with_reducible assumption | rfl) ?_ | fail)
  | ((with_reducible show wpO (gFdiv _ _) _); first | refine wO_fdiv rfl rfl (fdivOk_small (by omega)) ?_ | refine wO_fdiv rfl rfl (by first | with_reducible assumption | rfl) ?_ | fail)
  | ((with_reducible show wpO (gMod _ _) _); first | refine wO_mod rfl rfl (by first | omega | with_reducible assumption) ?_ | fail)
  | ((with_reducible show wpO (gLt _ _) _); first | refine wO_lt rfl rfl ?_)
  | ((with_reducible show wpO (gLe _ _) _); first | refine wO_le rfl rfl ?_)
  | ((with_reducible show wpO (gGt _ _) _); first | refine wO_gt rfl rfl ?_)
  | ((with_reducible show wpO (gGe _ _) _); first | refine wO_ge rfl rfl ?_)
  | ((with_reducible show wpO (gEq _ _) _); first | refine wO_eqI rfl rfl ?_ | refine wO_eqB rfl rfl ?_)
  | ((with_reducible show wpO (gNe _ _) _); first | refine wO_neI rfl rfl ?_ | refine wO_neB rfl rfl ?_)
  | with_reducible refine wO_isN ?_
  | with_reducible refine wO_notN ?_
  | ((with_reducible show wpO (gIsB _ _) _); first | refine wO_isB rfl rfl ?_)
  | ((with_reducible show wpO (gLen _) _); first | refine wO_lenm rfl ?_ | refine wO_len rfl ?_)
  | ((with_reducible show wpO (gList _) _); first | refine wO_list rfl ?_)
  | ((with_reducible show wpO (gTuple _) _); first | refine wO_tuple rfl ?_)
  | ((with_reducible show wpO (gInt _) _); first | refine wO_int rfl ?_)
  | ((with_reducible show wpO (gAbs _) _); first | refine wO_abs rfl ?_)
  | ((with_reducible show wpO (gMax2 _ _) _); first | refine wO_max2 rfl rfl ?_)
  | ((with_reducible show wpO (gMin2 _ _) _); first | refine wO_min2 rfl rfl ?_)
  | ((with_reducible show wpO (gIx _ _) _); first | refine wO_ix rfl rfl (by first | omega | with_reducible assumption) ?_ | refine wO_ix_last rfl rfl (by first | with_reducible assumption | simp) ?_ | refine wO_ixi rfl rfl (by first | omega | with_reducible assumption) ?_ | refine wO_ixl rfl ?_)
  | ((with_reducible show wpO (gIsi _ _) _); first | refine wO_isi rfl ?_)
  | ((with_reducible show wpO (gSl _ _ _) _); first | refine wO_slL rfl ?_ | refine wO_slT rfl ?_)
  | ((with_reducible show wpO (gRev _) _); first | refine wO_revL rfl ?_ | refine wO_revT rfl ?_)
  | with_reducible refine wO_rep_non ?_
  | ((with_reducible show wpO (gRep0 _) _); first | refine wO_rep_bl rfl ?_)
  | with_reducible refine wO_all ?_
  | with_reducible refine wO_any ?_
  | with_reducible refine wS_parK ?_
  | with_reducible refine wS_par3 ?_
  | with_reducible refine wS_asg ?_
  | with_reducible refine wC_cons ?_
  | with_reducible refine wC_nil ?_
  | with_reducible refine wS_putI ?_
  | with_reducible refine wS_swapI ?_
  | with_reducible refine swap_i ?_
  | with_reducible refine wS_drop ?_
  | with_reducible refine wS_retN ?_
  | with_reducible refine wS_brk ?_
  | with_reducible refine wS_cnt ?_
  | ((with_reducible show par3K _ _ _ _ _ _); first | refine par3_st (lt_of_ble rfl) (lt_of_ble rfl) (lt_of_ble rfl) (by repeat (first | with_reducible exact set_0 | with_reducible apply set_s)) (by repeat (first | with_reducible exact set_0 | with_reducible apply set_s)) (by repeat (first | with_reducible exact set_0 | with_reducible apply set_s)) ?_)
  | ((with_reducible show wpC (tgTup _ _ _ _) _); first | refine wC_tup rfl rfl ?_)
  | ((with_reducible show wpC (tgUnl _ _ _ _) _); first | refine wC_unl rfl rfl ?_)
  | ((with_reducible refine t_M ?_); refine tM_i rfl (by repeat (first | with_reducible exact set_0 | with_reducible apply set_s)) ?_)
  | ((with_reducible show wpS (sApp _ _ _) _); first | refine wS_app rfl ?_)
  | ((with_reducible show appK _ _ _ _ _); first | refine app_st (by first | exact st_nb | exact fr_nb) rfl (by first | omega | (simp <;> omega)) (by repeat (first | with_reducible exact set_0 | with_reducible apply set_s)) ?_ | fail)
  | ((with_reducible show ownK _ _ _); first | refine own_i rfl ?_)
  | ((with_reducible show wpS (sAppPop _ _ _ _) _); first | refine wS_appPop rfl rfl ?_))
/-- a triple as it is drawn -/
structure Hid (t : T3) : Prop where
  a : t.1 < 4
  b : t.2.1 < 4
  p : 0 < t.2.2
  s : t.2.2 ≤ 12
theorem any_call {W : Wd} (hW : WOk1 W) (n : Nat) (h0 : 0 < n) (h1 : n < 2 ^ 60) : ∃ (k : Nat) (W' : Wd), k < n ∧ WOk1 W' ∧ F__law_any [.deal, .int (n : Int)] W = .ret false (nD k) W' := any_ex hW h0 h1
theorem hidden_ex (W : Wd) (hW : WOk1 W) : ∃ t : T3, Hid t ∧ ∃ W', WOk1 W' ∧ F__law_hidden [.deal] W = .ret false (tD t) W' := by
  obtain ⟨a, W1, ha, hW1, e1⟩ := any_call hW 4 (by omega) (by omega)
  obtain ⟨b, W2, hb, hW2, e2⟩ := any_call hW1 4 (by omega) (by omega)
  obtain ⟨s, hs, W3, hW3, e3⟩ := law_of_ex nD [1, 1, 2, 2, 3, 4, 5, 6, 8, 12] W2 hW2 (by simp) (by simp)
  refine ⟨(a, b, s), ⟨ha, hb, ?_, ?_⟩, W3, hW3, ret_of ?_⟩
  · simp at hs
    show 0 < s
    omega
  · simp at hs
    show s ≤ 12
    omega
  unfold F__law_hidden f__law_hidden
  refine wF_run rfl (by repeat (first | with_reducible exact st_0 | with_reducible apply st_d | with_reducible apply st_n)) ?_
  (repeat' get_elem_tactic_trivial)
  refine call_ret e1 rfl ?_
  (repeat' get_elem_tactic_trivial)
  refine call_ret e2 rfl ?_
  (repeat' get_elem_tactic_trivial)
  refine call_ret e3 rfl ?_
  (repeat' get_elem_tactic_trivial)
  exact ⟨rfl, rfl, rfl⟩
theorem sum_tD (t : T3) : gSumA (tD t) = some (.st, nD (t.1 + t.2.1 + t.2.2)) := by
  have : gSumA (tD t) = some (.st, .int ([(t.1 : Int), (t.2.1 : Int), (t.2.2 : Int)].sum)) := rfl
  rw [this]
  have e : ([(t.1 : Int), (t.2.1 : Int), (t.2.2 : Int)].sum) = ((t.1 + t.2.1 + t.2.2 : Nat) : Int) := by
    simp
    omega
  rw [e]
  rfl
/-- two places of a range exchanged -/
theorem swap_range {n a b : Nat} (hab : a < b) (hb : b < n) : (((List.range n).set a b).set b a).Perm (List.range n) := by
  have h := swap_perm (p := List.range n) (i := a) (j := b) hab (by simpa using hb)
  have e : ((List.range n).set a b).set b a = (List.range n).take a ++ [(List.range n).getD b default] ++ ((List.range n).drop (a + 1)).take (b - (a + 1)) ++ [(List.range n).getD a default] ++ (List.range n).drop (b + 1) := by
    have ga : (List.range n).getD a default = a := getD_range (by omega)
    have gb : (List.range n).getD b default = b := getD_range hb
    rw [ga, gb]
    apply List.ext_getElem?
    intro i
    simp only [List.append_assoc, List.singleton_append]
    by_cases h1 : i = b
    · subst h1
      rw [List.getElem?_set_self (by simp; omega), List.getElem?_append_right (by simp; omega)]
      simp only [List.length_take, List.length_range]
      rw [Nat.min_eq_left (by omega), show i - a = (i - a - 1) + 1 by omega, List.cons_append, List.getElem?_cons_succ, List.getElem?_append_right (by simp; omega)]
      simp only [List.length_take, List.length_drop, List.length_range]
      rw [show i - a - 1 - min (i - (a + 1)) (n - (a + 1)) = 0 by omega]
      rfl
    · rw [List.getElem?_set_ne (fun z => h1 z.symm)]
      by_cases h2 : i = a
      · subst h2
        rw [List.getElem?_set_self (by simp; omega), List.getElem?_append_right (by simp; omega)]
        simp only [List.length_take, List.length_range]
        rw [show i - min i n = 0 by omega]
        rfl
      · rw [List.getElem?_set_ne (fun z => h2 z.symm)]
        by_cases h3 : i < a
        · rw [List.getElem?_append_left (by simp; omega), List.getElem?_take_of_lt h3]
        · rw [List.getElem?_append_right (by simp; omega)]
          simp only [List.length_take, List.length_range]
          rw [Nat.min_eq_left (by omega), show i - a = (i - a - 1) + 1 by omega, List.cons_append, List.getElem?_cons_succ]
          by_cases h4 : i < b
          · rw [List.getElem?_append_left (by simp; omega), List.getElem?_take_of_lt (by omega), List.getElem?_drop]
            congr 1
            omega
          · rw [List.getElem?_append_right (by simp; omega)]
            simp only [List.length_take, List.length_drop, List.length_range]
            rw [show i - a - 1 - min (b - (a + 1)) (n - (a + 1)) = (i - b - 1) + 1 by omega, List.getElem?_cons_succ, List.getElem?_drop]
            congr 1
            omega
  rw [e]
  exact h
theorem found_ex (t : T3) (W : Wd) (hW : WOk1 W) (ht : Hid t) : ∃ p : List Nat, Pm p ∧ p.length ≤ 60 ∧ ∃ W', WOk1 W' ∧ F__law_found [.deal, tD t] W = .ret false (pD p) W' := by
  obtain ⟨h1, h2, h3, h4⟩ := ht
  suffices hz : wpF (F__law_found [.deal, tD t] W) (fun fr d W' => fr = false ∧ WOk1 W' ∧ ∃ p : List Nat, d = pD p ∧ Pm p ∧ p.length ≤ 60) (fun _ _ => False) by
    obtain ⟨fr, d, W', e, rfl, h1, p, rfl, h2, h3⟩ := wpF_ex hz
    exact ⟨p, h2, h3, W', h1, e⟩
  obtain ⟨form, W1, hf, hW1, e1⟩ := any_call hW 8 (by omega) (by omega)
  obtain ⟨more, W2, hm, hW2, e2⟩ := any_call hW1 9 (by omega) (by omega)
  obtain ⟨p, hp, hpl, W3, hW3, e3⟩ := reordering_ex (t.1 + t.2.1 + t.2.2 + more) t W2 hW2 (by omega) (by omega) h3 (by omega)
  unfold F__law_found f__law_found
  refine wF_run rfl (by repeat (first | with_reducible exact st_0 | with_reducible apply st_d | with_reducible apply st_n)) ?_
  (repeat' get_elem_tactic_trivial)
  refine call_ret e1 rfl ?_
  (repeat' get_elem_tactic_trivial)
  refine wO_some (sum_tD t) ?_
  (repeat' get_elem_tactic_trivial)
  refine call_ret e2 rfl ?_
  (repeat' get_elem_tactic_trivial)
  refine call_ret e3 rfl ?_
  (repeat' get_elem_tactic_trivial)
  refine onBl_d (fun g => ?_) (fun g => ?_)
  · (repeat' get_elem_tactic_trivial)
    refine ⟨rfl, hW3, List.range (t.1 + t.2.1 + t.2.2 + more), ?_, pm_range (by omega), by simp; omega⟩
    rw [show ((t.1 + t.2.1 + t.2.2 : Nat) : Int) + (more : Int) = ((t.1 + t.2.1 + t.2.2 + more : Nat) : Int) by omega, Int.toNat_natCast, rngD_0]
    rfl
  (repeat' get_elem_tactic_trivial)
  refine onBl_d (fun g1 => ?_) (fun g1 => ?_)
  · (repeat' get_elem_tactic_trivial)
    obtain ⟨k, W4, hk, hW4, e4⟩ := any_call hW3 9 (by omega) (by omega)
    refine call_ret e4 rfl ?_
    (repeat' get_elem_tactic_trivial)
    rw [Int.toNat_natCast, rngD_0]
    obtain ⟨ys, hy, W5, hW5, e5⟩ := mixed_ex nD 0 (fun a => gd_int 0 _) (by omega) true (List.range k) W4 hW4 (by simp; omega)
    refine call_fr e5 rfl ?_
    (repeat' get_elem_tactic_trivial)
    have := hy.length_eq
    rw [List.length_range] at this
    exact ⟨rfl, hW5, ys, rfl, pm_perm hy (pm_range (by omega)), by omega⟩
  (repeat' get_elem_tactic_trivial)
  refine onBl_d (fun g2 => ?A) (fun g2 => ?B)
  case' A =>
    (repeat' get_elem_tactic_trivial)
    refine onBl_d (fun g3 => ?C) (fun g3 => ?D)
  case C =>
    (repeat' get_elem_tactic_trivial)
    obtain ⟨q, hq, W4, hW4, e4⟩ := near_ex p W3 hW3 hp (by omega)
    refine call_ret e4 rfl ?_
    (repeat' get_elem_tactic_trivial)
    exact ⟨rfl, hW4, q, rfl, pm_perm hq hp, by rw [hq.length_eq]; omega⟩
  case' D => (repeat' get_elem_tactic_trivial)
  case' B =>
    (repeat' get_elem_tactic_trivial)
    refine onBl_d (fun g4 => ?E) (fun g4 => ?F)
  case F =>
    (repeat' get_elem_tactic_trivial)
    exact ⟨rfl, hW3, p, rfl, hp, by omega⟩
  case' E => (repeat' get_elem_tactic_trivial)
  all_goals
    obtain ⟨k1, W4, hk1, hW4, e4⟩ := any_call hW3 3 (by omega) (by omega)
    refine call_ret e4 rfl ?_
    (repeat' get_elem_tactic_trivial)
    obtain ⟨k2, W5, hk2, hW5, e5⟩ := any_call hW4 3 (by omega) (by omega)
    refine call_ret e5 rfl ?_
    (repeat' get_elem_tactic_trivial)
    obtain ⟨k3, W6, hk3, hW6, e6⟩ := any_call hW5 3 (by omega) (by omega)
    refine call_ret e6 rfl ?_
    (repeat' get_elem_tactic_trivial)
    obtain ⟨x, hx, W7, hW7, e7⟩ := law_of_ex nD [1, 1, 2, 3] W6 hW6 (by simp) (by simp)
    simp at hx
    refine call_ret e7 rfl ?_
    (repeat' get_elem_tactic_trivial)
    obtain ⟨s', hs1, hs2, hs3⟩ : ∃ s' : Nat, (if (t.2.2 : Int) * (1 + (k3 : Int)) / (x : Int) > 1 then (t.2.2 : Int) * (1 + (k3 : Int)) / (x : Int) else 1) = (s' : Int) ∧ 0 < s' ∧ s' ≤ 36 := by
      have hk : k3 = 0 ∨ k3 = 1 ∨ k3 = 2 := by omega
      have key : ∀ z : Int, z = (t.2.2 : Int) * (1 + (k3 : Int)) / (x : Int) → 0 ≤ z ∧ z ≤ 36 := fun z hz => by
        rcases hx with rfl | rfl | rfl <;> rcases hk with rfl | rfl | rfl <;> omega
      have := key _ rfl
      generalize (t.2.2 : Int) * (1 + (k3 : Int)) / (x : Int) = z at this ⊢
      exact ⟨(if z > 1 then z else 1).toNat, by split <;> omega, by split <;> omega, by split <;> omega⟩
    obtain ⟨a', ha1, ha2⟩ : ∃ a' : Nat, (if (0 : Int) > (t.1 : Int) + (k1 : Int) - 1 then 0 else (t.1 : Int) + (k1 : Int) - 1) = (a' : Int) ∧ a' ≤ 5 := by
      generalize hz : (t.1 : Int) + (k1 : Int) - 1 = z
      exact ⟨(if (0 : Int) > z then 0 else z).toNat, by split <;> omega, by split <;> omega⟩
    obtain ⟨b', hb1, hb2⟩ : ∃ b' : Nat, (if (0 : Int) > (t.2.1 : Int) + (k2 : Int) - 1 then 0 else (t.2.1 : Int) + (k2 : Int) - 1) = (b' : Int) ∧ b' ≤ 5 := by
      generalize hz : (t.2.1 : Int) + (k2 : Int) - 1 = z
      exact ⟨(if (0 : Int) > z then 0 else z).toNat, by split <;> omega, by split <;> omega⟩
    rw [hs1, ha1, hb1, show ((a' : Int) + (s' : Int) + 1 + (b' : Int)).toNat = a' + s' + 1 + b' by omega, rngD_0]
    (repeat' get_elem_tactic_trivial)
    rw [ha1, show (a' : Int) + (s' : Int) = ((a' + s' : Nat) : Int) by omega]
    refine putI_st (j := a') rfl (ixN_natD (by simp; omega)) (by repeat (first | with_reducible exact set_0 | with_reducible apply set_s)) ?_
    (repeat' get_elem_tactic_trivial)
    rw [ha1, show (a' : Int) + (s' : Int) = ((a' + s' : Nat) : Int) by omega]
    refine putI_st (j := a' + s') rfl (ixN_natD (by simp; omega)) (by repeat (first | with_reducible exact set_0 | with_reducible apply set_s)) ?_
    (repeat' get_elem_tactic_trivial)
    have hsw := swap_range (n := a' + s' + 1 + b') (a := a') (b := a' + s') (by omega) (by omega)
    refine ⟨rfl, hW7, _, ?_, pm_perm hsw (pm_range (by omega)), by rw [hsw.length_eq]; simp; omega⟩
    unfold pD
    rw [List.map_set, List.map_set]
    rfl
theorem findings_ex (t : T3) (n : Nat) (wr : Bool) (W : Wd) (hW : WOk1 W) (ht : Hid t) (hn : n ≤ 10) : ∃ fs : List Fg, FS fs ∧ fs.length = n ∧ ∃ W', WOk1 W' ∧ F__law_findings [.deal, tD t, nD n, .bl wr] W = .ret false (.tup (fs.map fgD)) W' := by
  suffices hz : wpF (F__law_findings [.deal, tD t, nD n, .bl wr] W) (fun fr d W' => fr = false ∧ WOk1 W' ∧ ∃ fs : List Fg, d = .tup (fs.map fgD) ∧ (∀ x ∈ fs, Pm x.1 ∧ x.1.length ≤ 60) ∧ fs.length = n) (fun _ _ => False) by
    obtain ⟨fr, d, W', e, rfl, h1, fs, rfl, h2, h3⟩ := wpF_ex hz
    exact ⟨fs, ⟨⟨fun x hx => (h2 x hx).1, by omega⟩, fun x hx => (h2 x hx).2⟩, h3, W', h1, e⟩
  unfold F__law_findings f__law_findings
  refine wF_run rfl (by repeat (first | with_reducible exact st_0 | with_reducible apply st_d | with_reducible apply st_n)) ?_
  (repeat' get_elem_tactic_trivial)
  rw [Int.toNat_natCast]
  refine for_rng0 _ (fun k c => ∃ (fs : List Fg) (x5 x6 : Option (Bool × D)) (W' : Wd), c = ⟨[some (false, .deal), some (false, tD t), some (false, nD n), some (false, .bl wr), some (true, .lst (fs.map fgD)), x5, x6, none], W'⟩ ∧ WOk1 W' ∧ fs.length = k ∧ ∀ x ∈ fs, Pm x.1 ∧ x.1.length ≤ 60) ⟨[], none, none, W, rfl, hW, rfl, fun x hx => absurd hx List.not_mem_nil⟩ (fun k c hk hI => ?_) (fun c hI => ?_)
  · obtain ⟨fs, x5, x6, W', rfl, hW', hl, hx⟩ := hI
    (repeat' get_elem_tactic_trivial)
    obtain ⟨p, hp, hpl, W1, hW1, e1⟩ := found_ex t W' hW' ht
    refine call_ret e1 rfl ?_
    (repeat' get_elem_tactic_trivial)
    obtain ⟨b, e2⟩ := lets_ex p t W1 (by omega) ht.p
    refine call_ret e2 rfl ?_
    (repeat' get_elem_tactic_trivial)
    refine ⟨fs ++ [(p, b)], _, _, W1, by rw [List.map_append]; rfl, hW1, by simp [hl], fun x hx2 => ?_⟩
    rcases List.mem_append.mp hx2 with h | h
    · exact hx x h
    · rw [List.mem_singleton.mp h]
      exact ⟨hp, hpl⟩
  · obtain ⟨fs, x5, x6, W', rfl, hW', hl, hx⟩ := hI
    (repeat' get_elem_tactic_trivial)
    refine onBl_b (fun g => ?A) (fun g => ?B)
    case B =>
      (repeat' get_elem_tactic_trivial)
      exact ⟨rfl, hW', fs, rfl, hx, hl⟩
    case A =>
      (repeat' get_elem_tactic_trivial)
      refine wO_some (gNe_nilG (k := 2) (fun d hd => by
        obtain ⟨x, _, rfl⟩ := List.mem_map.mp hd
        exact good_fgD 0 x) (by omega)) ?_
      rw [List.isEmpty_map]
      refine onBl_n (fun g1 => ?C) (fun g1 => ?D)
      case D =>
        (repeat' get_elem_tactic_trivial)
        exact ⟨rfl, hW', fs, rfl, hx, hl⟩
      case C =>
        have h0 : 0 < fs.length := by
          cases fs with
          | nil => cases g1
          | cons a b => simp
        (repeat' get_elem_tactic_trivial)
        obtain ⟨k, W1, hk, hW1, e1⟩ := any_call hW' 3 (by omega) (by omega)
        refine call_ret e1 rfl ?_
        (repeat' get_elem_tactic_trivial)
        refine onBl_d (fun g2 => ?E) (fun g2 => ?F)
        case F =>
          (repeat' get_elem_tactic_trivial)
          exact ⟨rfl, hW1, fs, rfl, hx, hl⟩
        case E =>
          (repeat' get_elem_tactic_trivial)
          obtain ⟨a, W2, ha, hW2, e2⟩ := any_call hW1 fs.length h0 (by omega)
          refine call_ret e2 rfl ?_
          (repeat' get_elem_tactic_trivial)
          refine putI_st (j := a) rfl (ixN_natD (by simpa using ha)) (by repeat (first | with_reducible exact set_0 | with_reducible apply set_s)) ?_
          (repeat' get_elem_tactic_trivial)
          refine ⟨rfl, hW2, fs.set a ((fs.getD a default).1, !(fs.getD a default).2), by rw [List.map_set]; rfl, fun x hx2 => ?_, by simpa using hl⟩
          rcases List.mem_or_eq_of_mem_set hx2 with h | h
          · exact hx x h
          · rw [h]
            show Pm (fs.getD a default).1 ∧ (fs.getD a default).1.length ≤ 60
            exact hx _ (getD_mem ha)
end DL.K50
namespace DL.K50
open PySem PySem.Spec PyProof.Rows L2 DL
local macro_rules | `(tactic| get_elem_tactic_trivial) => `(tactic| first
  | with_reducible refine wS_seq ?_
  | with_reducible refine wS_set ?_
  | with_reducible refine wS_if ?_
  | with_reducible refine wS_ret ?_
  | with_reducible refine ret_st ?_
  | with_reducible refine ret_fr ?_
  | with_reducible refine wE_call ?_
  | with_reducible refine wA_cons ?_
  | with_reducible refine wA_nil ?_
  | with_reducible refine wE_evC ?_
  | ((with_reducible refine v_M ?_); refine vM_a rfl (by repeat (first | with_reducible exact set_0 | with_reducible apply set_s)) ?_)
  | ((with_reducible refine b_M ?_); refine bM_i rfl ?_)
  | ((with_reducible refine m_M ?_); first | refine mM_s rfl ?_ | refine mM_o rfl (by repeat (first | with_reducible exact set_0 | with_reducible apply set_s)) ?_)
  | ((with_reducible refine p_Ms ?_); refine pM_s rfl (by repeat (first | with_reducible exact set_0 | with_reducible apply set_s)) ?_)
  | ((with_reducible refine p_Mf ?_); refine pM_f rfl (by repeat (first | with_reducible exact set_0 | with_reducible apply set_s)) ?_)
  | with_reducible refine wE_ev1 ?_
  | with_reducible refine wE_ev2 ?_
  | with_reducible refine wE_and ?_
  | with_reducible refine wE_or ?_
  | with_reducible refine wE_not ?_
  | with_reducible refine wE_tru ?_
  | with_reducible refine wE_if ?_
  | with_reducible refine wE_tup ?_
  | with_reducible refine wE_lst ?_
  | with_reducible refine wE_neg ?_
  | with_reducible refine wE_ev3 ?_
  | with_reducible refine wE_callK2 ?_
  | with_reducible refine wE_sl ?_
  | with_reducible refine wE_LRg ?_
  | with_reducible refine wE_TRg ?_
  | with_reducible refine wE_lc ?_
  | with_reducible refine wV_none ?_
  | with_reducible refine wV_some ?_
  | with_reducible refine And.intro st_nb ?_
  | with_reducible refine And.intro fr_nb ?_
  | with_reducible refine wS_nil ?_
  | with_reducible refine wS_for ?_
  | with_reducible refine wA_it ?_
  | with_reducible refine wA_en ?_
  | with_reducible refine wA_R1 ?_
  | with_reducible refine wA_R2 ?_
  | ((with_reducible show itK _ _ _ _); first | refine it_seq st_nb rfl ?_ | refine it_seq fr_nb rfl ?_)
  | ((with_reducible show enK _ _ _); first | refine en_seq rfl ?_)
  | ((with_reducible show isBl _ _); first | refine isBl_i rfl ?_)
  | ((with_reducible show isInt _ _); first | refine isInt_i rfl ?_)
  | ((with_reducible show isTru _ _); first | refine isTru_i rfl ?_)
  | ((with_reducible show lenB _ _); first | refine lenB_i (by first | omega | (simp <;> omega)) ?_ | fail)
  | ((with_reducible show in62 _ _); first | refine in62_i (by first | omega | with_reducible assumption) (by first | omega | with_reducible assumption) ?_ | fail)
  | ((with_reducible show inM _ _); first | refine inM_i (by first | omega | with_reducible assumption) (by first | omega | with_reducible assumption) ?_ | fail)
  | ((with_reducible show onBl _ _ _); first | with_reducible refine onBl_t ?_ | with_reducible refine onBl_f ?_ | with_reducible refine onBl_nt ?_ | with_reducible refine onBl_nf ?_ | with_reducible refine onBl_dt (by first | omega | with_reducible assumption) ?_ | with_reducible refine onBl_df (by first | omega | with_reducible assumption) ?_ | with_reducible refine onBl_ndt (by first | omega | with_reducible assumption) ?_ | with_reducible refine onBl_ndf (by first | omega | with_reducible assumption) ?_ | fail)
  | ((with_reducible show wpO (gAdd _ _) _); first | refine wO_add rfl rfl ?_ | refine wO_catT rfl rfl (by first | omega | (simp <;> omega)) ?_ | refine wO_catL rfl rfl (by first | omega | (simp <;> omega)) ?_ | refine wO_catT rfl rfl ?_ ?_ | refine wO_catL rfl rfl ?_ ?_)
  | ((with_reducible show wpO (gSubI _ _) _); first | refine wO_sub rfl rfl ?_)
  | ((with_reducible show wpO (gMul _ _) _); first | refine wO_mul rfl rfl (mulOk_small (by omega)) ?_ | refine wO_mul rfl rfl (by first | with_reducible assumption | rfl) ?_ | fail)
  | ((with_reducible show wpO (gFdiv _ _) _); first | refine wO_fdiv rfl rfl (fdivOk_small (by omega)) ?_ | refine wO_fdiv rfl rfl (by first | with_reducible assumption | rfl) ?_ | fail)
  | ((with_reducible show wpO (gMod _ _) _); first | refine wO_mod rfl rfl (by first | omega | with_reducible assumption) ?_ | fail)
  | ((with_reducible show wpO (gLt _ _) _); first | refine wO_lt rfl rfl ?_)
  | ((with_reducible show wpO (gLe _ _) _); first | refine wO_le rfl rfl ?_)
  | ((with_reducible show wpO (gGt _ _) _); first | refine wO_gt rfl rfl ?_)
  | ((with_reducible show wpO (gGe _ _) _); first | refine wO_ge rfl rfl ?_)
  | ((with_reducible show wpO (gEq _ _) _); first | refine wO_eqI rfl rfl ?_ | refine wO_eqB rfl rfl ?_)
  | ((with_reducible show wpO (gNe _ _) _); first | refine wO_neI rfl rfl ?_ | refine wO_neB rfl rfl ?_)
  | with_reducible refine wO_isN ?_
  | with_reducible refine wO_notN ?_
  | ((with_reducible show wpO (gIsB _ _) _); first | refine wO_isB rfl rfl ?_)
  | ((with_reducible show wpO (gLen _) _); first | refine wO_lenm rfl ?_ | refine wO_len rfl ?_)
  | ((with_reducible show wpO (gList _) _); first | refine wO_list rfl ?_)
  | ((with_reducible show wpO (gTuple _) _); first | refine wO_tuple rfl ?_)
  | ((with_reducible show wpO (gInt _) _); first | refine wO_int rfl ?_)
  | ((with_reducible show wpO (gAbs _) _); first | refine wO_abs rfl ?_)
  | ((with_reducible show wpO (gMax2 _ _) _); first | refine wO_max2 rfl rfl ?_)
  | ((with_reducible show wpO (gMin2 _ _) _); first | refine wO_min2 rfl rfl ?_)
  | ((with_reducible show wpO (gIx _ _) _); first | refine wO_ix rfl rfl (by first | omega | with_reducible assumption) ?_ | refine wO_ix_last rfl rfl (by first | with_reducible assumption | simp) ?_ | refine wO_ixi rfl rfl (by first | omega | with_reducible assumption) ?_ | refine wO_ixl rfl ?_)
  | ((with_reducible show wpO (gIsi _ _) _); first | refine wO_isi rfl ?_)
  | ((with_reducible show wpO (gSl _ _ _) _); first | refine wO_slL rfl ?_ | refine wO_slT rfl ?_)
  | ((with_reducible show wpO (gRev _) _); first | refine wO_revL rfl ?_ | refine wO_revT rfl ?_)
  | with_reducible refine wO_rep_non ?_
  | ((with_reducible show wpO (gRep0 _) _); first | refine wO_rep_bl rfl ?_)
  | with_reducible refine wO_all ?_
  | with_reducible refine wO_any ?_
  | with_reducible refine wS_parK ?_
  | with_reducible refine wS_par3 ?_
  | with_reducible refine wS_asg ?_
  | with_reducible refine wC_cons ?_
  | with_reducible refine wC_nil ?_
  | with_reducible refine wS_putI ?_
  | with_reducible refine wS_swapI ?_
  | with_reducible refine swap_i ?_
  | with_reducible refine wS_drop ?_
  | with_reducible refine wS_retN ?_
  | with_reducible refine wS_brk ?_
  | with_reducible refine wS_cnt ?_
  | ((with_reducible show par3K _ _ _ _ _ _); first | refine par3_st (lt_of_ble rfl) (lt_of_ble rfl) (lt_of_ble rfl) (by repeat (first | with_reducible exact set_0 | with_reducible apply set_s)) (by repeat (first | with_reducible exact set_0 | with_reducible apply set_s)) (by repeat (first | with_reducible exact set_0 | with_reducible apply set_s)) ?_)
  | ((with_reducible show wpC (tgTup _ _ _ _) _); first | refine wC_tup rfl rfl ?_)
  | ((with_reducible show wpC (tgUnl _ _ _ _) _); first | refine wC_unl rfl rfl ?_)
  | ((with_reducible refine t_M ?_); refine tM_i rfl (by repeat (first | with_reducible exact set_0 | with_reducible apply set_s)) ?_)
  | ((with_reducible show wpS (sApp _ _ _) _); first | refine wS_app rfl ?_)
  | ((with_reducible show appK _ _ _ _ _); first | refine app_st (by first | exact st_nb | exact fr_nb) rfl (by first | omega | (simp <;> omega)) (by repeat (first | with_reducible exact set_0 | with_reducible apply set_s)) ?_ | fail)
  | ((with_reducible show ownK _ _ _); first | refine own_i rfl ?_)
  | ((with_reducible show wpS (sAppPop _ _ _ _) _); first | refine wS_appPop rfl rfl ?_))
/-! ### values near a clash -/
def IsO (d : D) : Prop := ∃ o, d = oD o
/-- what the judge and the law are asked about -/
def Vl (d : D) : Prop := isTs [.tuple] d = some false ∨ ∃ os : List (Option Int), d = .tup (os.map oD) ∧ os.length ≤ 60
theorem vl_tup {ds : List D} (h : ∀ d ∈ ds, IsO d) (hl : ds.length ≤ 60) : Vl (.tup ds) := by
  refine .inr ?_
  have key : ∀ ds : List D, (∀ d ∈ ds, IsO d) → ∃ os : List (Option Int), ds = os.map oD := by
    intro ds
    induction ds with
    | nil => exact fun _ => ⟨[], rfl⟩
    | cons d ds ih =>
      intro h
      obtain ⟨o, ho⟩ := h d List.mem_cons_self
      obtain ⟨os, e⟩ := ih fun x hx => h x (List.mem_cons_of_mem _ hx)
      exact ⟨o :: os, by rw [ho, e]; rfl⟩
  obtain ⟨os, e⟩ := key ds h
  refine ⟨os, by rw [e], ?_⟩
  have := congrArg List.length e
  rw [List.length_map] at this
  omega
theorem iso_nat (xs : List Nat) : ∀ d ∈ xs.map nD, IsO d := fun d hd => by
  obtain ⟨n, _, rfl⟩ := List.mem_map.mp hd
  exact ⟨some (n : Int), rfl⟩
theorem iso_int (xs : List Int) : ∀ d ∈ xs.map D.int, IsO d := fun d hd => by
  obtain ⟨n, _, rfl⟩ := List.mem_map.mp hd
  exact ⟨some n, rfl⟩
theorem iso_app {a b : List D} (h : ∀ d ∈ a, IsO d) (g : ∀ d ∈ b, IsO d) : ∀ d ∈ a ++ b, IsO d := fun d hd => by
  rcases List.mem_append.mp hd with z | z
  · exact h d z
  · exact g d z
theorem iso_cut {a : List D} (h : ∀ d ∈ a, IsO d) (lo hi : Option Int) : ∀ d ∈ cutD a lo hi, IsO d := fun d hd => h d (List.mem_of_mem_drop (List.mem_of_mem_take hd))
theorem iso_one (i : Int) : ∀ d ∈ [D.int i], IsO d := fun d hd => by
  rw [List.mem_singleton.mp hd]
  exact ⟨some i, rfl⟩
theorem iso_tru : ∀ d ∈ [D.bl true], IsO d := fun d hd => by
  rw [List.mem_singleton.mp hd]
  exact ⟨none, rfl⟩
theorem intsD_app (is : List Int) (j : Int) : intsD (is.map D.int ++ [.int j]) = some (is ++ [j]) := by
  have := intsD_map (is ++ [j])
  rw [List.map_append] at this
  exact this
theorem sortedA_nat (xs : List Nat) (j : Int) : ∃ ns : List Int, ns.length = xs.length + 1 ∧ gSortedA (.tup (xs.map nD ++ [.int j])) = some (.fr, .lst (ns.map D.int)) := by
  refine ⟨sortI (xs.map (fun n : Nat => (n : Int)) ++ [j]), by unfold sortI; rw [List.length_mergeSort]; simp, ?_⟩
  have e : intsD (xs.map nD ++ [.int j]) = some (xs.map (fun n : Nat => (n : Int)) ++ [j]) := by
    have := intsD_app (xs.map (fun n : Nat => (n : Int))) j
    rw [List.map_map] at this
    exact this
  have h : gSortedT (.tup (xs.map nD ++ [.int j])) = some (.fr, .lst ((sortI (xs.map (fun n : Nat => (n : Int)) ++ [j])).map D.int)) := by
    show (intsD (xs.map nD ++ [.int j])).bind _ = _
    rw [e]
    rfl
  show (gSorted (.tup (xs.map nD ++ [.int j]))).orElse _ = _
  have h0 : gSorted (.tup (xs.map nD ++ [.int j])) = none := rfl
  rw [h0]
  exact h
instance : Inhabited D := ⟨.non⟩
theorem law_of_D (ds : List D) (W : Wd) (hW : WOk1 W) (h0 : ds ≠ []) (hl : ds.length ≤ 1000) : ∃ x ∈ ds, ∃ W', WOk1 W' ∧ F__law_of [.deal, .lst ds] W = .ret false x W' := by
  have := law_of_ex (id : D → D) ds W hW h0 hl
  rw [List.map_id] at this
  exact this
theorem call_of {Q : QE} {X : QX} {r : List (Option (Bool × D))} {ds : List D} {W : Wd} (hW : WOk1 W) (h0 : ds ≠ []) (hl : ds.length ≤ 1000) (hq : ∀ d ∈ ds, ∀ W', WOk1 W' → Q .st d ⟨r, W'⟩) : callK 2 F__law_of Q X [.deal, .lst ds] ⟨r, W⟩ := by
  obtain ⟨d, hd, W', hW', e⟩ := law_of_D ds W hW h0 hl
  exact call_ret e rfl (hq d hd W' hW')
theorem near_value_ex (xs : List Nat) (v : D) (hv : v = .non ∧ xs = [0] ∨ v = .tup (xs.map nD)) (n : Nat) (W : Wd) (hW : WOk1 W) (h0 : 0 < xs.length) (hl : xs.length ≤ 20) (hn : n ≤ 20) : ∃ d, Vl d ∧ ∃ W', WOk1 W' ∧ F__law_near_value [.deal, v, nD n] W = .ret false d W' := by
  suffices hz : wpF (F__law_near_value [.deal, v, nD n] W) (fun fr d W' => fr = false ∧ WOk1 W' ∧ Vl d) (fun _ _ => False) by
    obtain ⟨fr, d, W', e, rfl, h1, h2⟩ := wpF_ex hz
    exact ⟨d, h2, W', h1, e⟩
  obtain ⟨a, W1, ha, hW1, e1⟩ := any_call hW xs.length h0 (by omega)
  obtain ⟨b, W2, hb, hW2, e2⟩ := any_call hW1 (n + 1) (by omega) (by omega)
  have hvl : Vl v := by
    rcases hv with ⟨rfl, _⟩ | rfl
    · exact .inl rfl
    · exact vl_tup (iso_nat xs) (by simp; omega)
  have l1 := cutD_len (xs.map nD) none (some (a : Int))
  have l2 := cutD_len (xs.map nD) (some ((a : Int) + 1)) none
  rw [List.length_map] at l1 l2
  obtain ⟨ns, hns, es⟩ := sortedA_nat xs (b : Int)
  have c2 : ((n + 1 : Nat) : Int) = (n : Int) + 1 := by omega
  rw [c2] at e2
  unfold F__law_near_value f__law_near_value
  refine wF_run rfl (by repeat (first | with_reducible exact st_0 | with_reducible apply st_d | with_reducible apply st_n)) ?_
  rcases hv with ⟨rfl, hxs⟩ | rfl
  case' inl =>
    (repeat' get_elem_tactic_trivial)
    refine onBl_f ?_
    refine wE_tup (wA_cons (wE_evC (And.intro st_nb (wA_nil (lenB_i (by simp) ?_)))))
    rw [show ([D.int 0] : List D) = xs.map nD by rw [hxs]; rfl]
  case' inr =>
    (repeat' get_elem_tactic_trivial)
    refine onBl_t ?_
  all_goals
    (repeat' get_elem_tactic_trivial)
    refine call_ret e1 rfl ?_
    (repeat' get_elem_tactic_trivial)
    refine call_ret e2 rfl ?_
    (repeat' get_elem_tactic_trivial)
    refine wO_some es ?_
    (repeat' get_elem_tactic_trivial)
    refine call_of hW2 (by simp) (by simp) (fun d hd W3 hW3 => ?_)
    (repeat' get_elem_tactic_trivial)
    refine ⟨rfl, hW3, ?_⟩
    rcases List.mem_append.mp hd with hd | hd
    · rcases List.mem_cons.mp hd with rfl | hd
      · exact hvl
      rcases List.mem_cons.mp hd with rfl | hd
      · exact vl_tup (iso_app (iso_cut (iso_nat _) _ _) (iso_cut (iso_nat _) _ _)) (by rw [List.length_append]; omega)
      rcases List.mem_cons.mp hd with rfl | hd
      · exact vl_tup (iso_int _) (by rw [List.length_map]; omega)
      rcases List.mem_cons.mp hd with rfl | hd
      · exact vl_tup (iso_app (iso_nat _) (iso_one _)) (by rw [List.length_append, List.length_map, List.length_singleton]; omega)
      rcases List.mem_cons.mp hd with rfl | hd
      · exact vl_tup (fun d hd => iso_nat _ d (List.mem_reverse.mp hd)) (by rw [List.length_reverse, List.length_map]; omega)
      rcases List.mem_cons.mp hd with rfl | hd
      · exact .inl rfl
      rcases List.mem_cons.mp hd with rfl | hd
      · exact .inl rfl
      rcases List.mem_cons.mp hd with rfl | hd
      · exact vl_tup (fun d hd => absurd hd List.not_mem_nil) (by simp)
      exact absurd hd List.not_mem_nil
    · rcases List.mem_cons.mp hd with rfl | hd
      · exact vl_tup (iso_app (iso_app (iso_cut (iso_nat _) _ _) (iso_one _)) (iso_cut (iso_nat _) _ _)) (by rw [List.length_append, List.length_append, List.length_singleton]; omega)
      rcases List.mem_cons.mp hd with rfl | hd
      · refine vl_tup ?_ ?_
        · rw [Int.toNat_natCast, rngD_0]
          exact iso_nat _
        · rw [Int.toNat_natCast, rngD_0, List.length_map, List.length_range]
          omega
      rcases List.mem_cons.mp hd with rfl | hd
      · exact vl_tup (iso_app (iso_nat _) iso_tru) (by rw [List.length_append, List.length_map, List.length_singleton]; omega)
      rcases List.mem_cons.mp hd with rfl | hd
      · exact vl_tup (iso_app (iso_one _) (iso_nat _)) (by rw [List.length_append, List.length_map, List.length_singleton]; omega)
      exact absurd hd List.not_mem_nil
end DL.K50
namespace DL.K50
open PySem PySem.Spec PyProof.Rows L2 DL
local macro_rules | `(tactic| get_elem_tactic_trivial) => `(tactic| first
  | with_reducible refine wS_seq ?_
  | with_reducible refine wS_set ?_
  | with_reducible refine wS_if ?_
  | with_reducible refine wS_ret ?_
  | with_reducible refine ret_st ?_
  | with_reducible refine ret_fr ?_
  | with_reducible refine wE_call ?_
  | with_reducible refine wA_cons ?_
  | with_reducible refine wA_nil ?_
  | with_reducible refine wE_evC ?_
  | ((with_reducible refine v_M ?_); refine vM_a rfl (by repeat (first | with_reducible exact set_0 | with_reducible apply set_s)) ?_)
  | ((with_reducible refine b_M ?_); refine bM_i rfl ?_)
  | ((with_reducible refine m_M ?_); first | refine mM_s rfl ?_ | refine mM_o rfl (by repeat (first | with_reducible exact set_0 | with_reducible apply set_s)) ?_)
  | ((with_reducible refine p_Ms ?_); refine pM_s rfl (by repeat (first | with_reducible exact set_0 | with_reducible apply set_s)) ?_)
  | ((with_reducible refine p_Mf ?_); refine pM_f rfl (by repeat (first | with_reducible exact set_0 | with_reducible apply set_s)) ?_)
  | with_reducible refine wE_ev1 ?_
  | with_reducible refine wE_ev2 ?_
  | with_reducible refine wE_and ?_
  | with_reducible refine wE_or ?_
  | with_reducible refine wE_not ?_
  | with_reducible refine wE_tru ?_
  | with_reducible refine wE_if ?_
  | with_reducible refine wE_tup ?_
  | with_reducible refine wE_lst ?_
  | with_reducible refine wE_neg ?_
  | with_reducible refine wE_ev3 ?_
  | with_reducible refine wE_callK2 ?_
  | with_reducible refine wE_sl ?_
  | with_reducible refine wE_LRg ?_
  | with_reducible refine wE_TRg ?_
  | with_reducible refine wE_lc ?_
  | with_reducible refine wV_none ?_
  | with_reducible refine wV_some ?_
  | with_reducible refine And.intro st_nb ?_
  | with_reducible refine And.intro fr_nb ?_
  | with_reducible refine wS_nil ?_
  | with_reducible refine wS_for ?_
  | with_reducible refine wA_it ?_
  | with_reducible refine wA_en ?_
  | with_reducible refine wA_R1 ?_
  | with_reducible refine wA_R2 ?_
  | ((with_reducible show itK _ _ _ _); first | refine it_seq st_nb rfl ?_ | refine it_seq fr_nb rfl ?_)
  | ((with_reducible show enK _ _ _); first | refine en_seq rfl ?_)
  | ((with_reducible show isBl _ _); first | refine isBl_i rfl ?_)
  | ((with_reducible show isInt _ _); first | refine isInt_i rfl ?_)
  | ((with_reducible show isTru _ _); first | refine isTru_i rfl ?_)
  | ((with_reducible show lenB _ _); first | refine lenB_i (by first | omega | (simp <;> omega)) ?_ | fail)
  | ((with_reducible show in62 _ _); first | refine in62_i (by first | omega | with_reducible assumption) (by first | omega | with_reducible assumption) ?_ | fail)
  | ((with_reducible show inM _ _); first | refine inM_i (by first | omega | with_reducible assumption) (by first | omega | with_reducible assumption) ?_ | fail)
  | ((with_reducible show onBl _ _ _); first | with_reducible refine onBl_t ?_ | with_reducible refine onBl_f ?_ | with_reducible refine onBl_nt ?_ | with_reducible refine onBl_nf ?_ | with_reducible refine onBl_dt (by first | omega | with_reducible assumption) ?_ | with_reducible refine onBl_df (by first | omega | with_reducible assumption) ?_ | with_reducible refine onBl_ndt (by first | omega | with_reducible assumption) ?_ | with_reducible refine onBl_ndf (by first | omega | with_reducible assumption) ?_ | fail)
  | ((with_reducible show wpO (gAdd _ _) _); first | refine wO_add rfl rfl ?_ | refine wO_catT rfl rfl (by first | omega | (simp <;> omega)) ?_ | refine wO_catL rfl rfl (by first | omega | (simp <;> omega)) ?_ | refine wO_catT rfl rfl ?_ ?_ | refine wO_catL rfl rfl ?_ ?_)
  | ((with_reducible show wpO (gSubI _ _) _); first | refine wO_sub rfl rfl ?_)
  | ((with_reducible show wpO (gMul _ _) _); first | refine wO_mul rfl rfl (mulOk_small (by omega)) ?_ | refine wO_mul rfl rfl (by first | with_reducible assumption | rfl) ?_ | fail)
  | ((with_reducible show wpO (gFdiv _ _) _); first | refine wO_fdiv rfl rfl (fdivOk_small (by omega)) ?_ | refine wO_fdiv rfl rfl (by first | with_reducible assumption | rfl) ?_ | fail)
  | ((with_reducible show wpO (gMod _ _) _); first | refine wO_mod rfl rfl (by first | omega | with_reducible assumption) ?_ | fail)
  | ((with_reducible show wpO (gLt _ _) _); first | refine wO_lt rfl rfl ?_)
  | ((with_reducible show wpO (gLe _ _) _); first | refine wO_le rfl rfl ?_)
  | ((with_reducible show wpO (gGt _ _) _); first | refine wO_gt rfl rfl ?_)
  | ((with_reducible show wpO (gGe _ _) _); first | refine wO_ge rfl rfl ?_)
  | ((with_reducible show wpO (gEq _ _) _); first | refine wO_eqI rfl rfl ?_ | refine wO_eqB rfl rfl ?_)
  | ((with_reducible show wpO (gNe _ _) _); first | refine wO_neI rfl rfl ?_ | refine wO_neB rfl rfl ?_)
  | with_reducible refine wO_isN ?_
  | with_reducible refine wO_notN ?_
  | ((with_reducible show wpO (gIsB _ _) _); first | refine wO_isB rfl rfl ?_)
  | ((with_reducible show wpO (gLen _) _); first | refine wO_lenm rfl ?_ | refine wO_len rfl ?_)
  | ((with_reducible show wpO (gList _) _); first | refine wO_list rfl ?_)
  | ((with_reducible show wpO (gTuple _) _); first | refine wO_tuple rfl ?_)
  | ((with_reducible show wpO (gInt _) _); first | refine wO_int rfl ?_)
  | ((with_reducible show wpO (gAbs _) _); first | refine wO_abs rfl ?_)
  | ((with_reducible show wpO (gMax2 _ _) _); first | refine wO_max2 rfl rfl ?_)
  | ((with_reducible show wpO (gMin2 _ _) _); first | refine wO_min2 rfl rfl ?_)
  | ((with_reducible show wpO (gIx _ _) _); first | refine wO_ix rfl rfl (by first | omega | with_reducible assumption) ?_ | refine wO_ix_last rfl rfl (by first | with_reducible assumption | simp) ?_ | refine wO_ixi rfl rfl (by first | omega | with_reducible assumption) ?_ | refine wO_ixl rfl ?_)
  | ((with_reducible show wpO (gIsi _ _) _); first | refine wO_isi rfl ?_)
  | ((with_reducible show wpO (gSl _ _ _) _); first | refine wO_slL rfl ?_ | refine wO_slT rfl ?_)
  | ((with_reducible show wpO (gRev _) _); first | refine wO_revL rfl ?_ | refine wO_revT rfl ?_)
  | with_reducible refine wO_rep_non ?_
  | ((with_reducible show wpO (gRep0 _) _); first | refine wO_rep_bl rfl ?_)
  | with_reducible refine wO_all ?_
  | with_reducible refine wO_any ?_
  | with_reducible refine wS_parK ?_
  | with_reducible refine wS_par3 ?_
  | with_reducible refine wS_asg ?_
  | with_reducible refine wC_cons ?_
  | with_reducible refine wC_nil ?_
  | with_reducible refine wS_putI ?_
  | with_reducible refine wS_swapI ?_
  | with_reducible refine swap_i ?_
  | with_reducible refine wS_drop ?_
  | with_reducible refine wS_retN ?_
  | with_reducible refine wS_brk ?_
  | with_reducible refine wS_cnt ?_
  | ((with_reducible show par3K _ _ _ _ _ _); first | refine par3_st (lt_of_ble rfl) (lt_of_ble rfl) (lt_of_ble rfl) (by repeat (first | with_reducible exact set_0 | with_reducible apply set_s)) (by repeat (first | with_reducible exact set_0 | with_reducible apply set_s)) (by repeat (first | with_reducible exact set_0 | with_reducible apply set_s)) ?_)
  | ((with_reducible show wpC (tgTup _ _ _ _) _); first | refine wC_tup rfl rfl ?_)
  | ((with_reducible show wpC (tgUnl _ _ _ _) _); first | refine wC_unl rfl rfl ?_)
  | ((with_reducible refine t_M ?_); refine tM_i rfl (by repeat (first | with_reducible exact set_0 | with_reducible apply set_s)) ?_)
  | ((with_reducible show wpS (sApp _ _ _) _); first | refine wS_app rfl ?_)
  | ((with_reducible show appK _ _ _ _ _); first | refine app_st (by first | exact st_nb | exact fr_nb) rfl (by first | omega | (simp <;> omega)) (by repeat (first | with_reducible exact set_0 | with_reducible apply set_s)) ?_ | fail)
  | ((with_reducible show ownK _ _ _); first | refine own_i rfl ?_)
  | ((with_reducible show wpS (sAppPop _ _ _ _) _); first | refine wS_appPop rfl rfl ?_))
/-! ### the law -/
theorem drawW_ok (ns : List Int) (s : Int) : WOk1 (drawW ns s) := by
  refine ⟨?_⟩
  unfold drawW cellsW
  simp only [List.length_reverse]
  refine Nat.le_trans (List.length_filter_le _ _) ?_
  rw [List.length_map, List.length_take]
  omega
theorem ne_rep (b : Bool) : gNe (.str (if b then "True" else "False")) (.str (if b then "True" else "False")) = some (.st, .bl false) := by
  have h : eqD (.str (if b then "True" else "False")) (.str (if b then "True" else "False")) = some true := by cases b <;> decide +kernel
  unfold gNe
  rw [h]
  rfl
theorem fs_perm {fs gs : List Fg} (h : gs.Perm fs) (hf : FS fs) : FS gs := ⟨⟨fun x hx => hf.ok.pm x (h.mem_iff.mp hx), by rw [h.length_eq]; exact hf.ok.sz⟩, fun x hx => hf.sm x (h.mem_iff.mp hx)⟩
theorem fs_app {fs gs : List Fg} (hf : FS fs) (hg : FS gs) (hl : fs.length + gs.length ≤ 1000) : FS (fs ++ gs) :=
  ⟨⟨fun x hx => by rcases List.mem_append.mp hx with z | z; exact hf.ok.pm x z; exact hg.ok.pm x z, by rw [List.length_append]; exact hl⟩, fun x hx => by rcases List.mem_append.mp hx with z | z; exact hf.sm x z; exact hg.sm x z⟩
theorem gd_pD (k : Nat) (p : List Nat) : Gd (k + 1) (pD p) := gd_tup fun d hd => by
  obtain ⟨n, _, rfl⟩ := List.mem_map.mp hd
  exact gd_int k _
theorem gd_fgD (x : Fg) : Gd 2 (fgD x) := gd_tup fun d hd => by
  rcases List.mem_cons.mp hd with rfl | hd
  · exact gd_pD 0 _
  rcases List.mem_cons.mp hd with rfl | hd
  · exact gd_bl _ _
  cases hd
/-- the first things drawn -/
theorem told_ex (W : Wd) (hW : WOk1 W) : ∃ t : T3, Hid t ∧ ∃ W1, WOk1 W1 ∧ F__law_hidden [.deal] W = .ret false (tD t) W1 ∧ ∃ (n : Nat) (W2 : Wd), n < 6 ∧ WOk1 W2 ∧ F__law_any [.deal, .int ((6 : Nat) : Int)] W1 = .ret false (nD n) W2 ∧ ∃ fs : List Fg, FS fs ∧ fs.length = n ∧ ∃ W3, WOk1 W3 ∧ F__law_findings [.deal, tD t, nD n, .bl true] W2 = .ret false (.tup (fs.map fgD)) W3 := by
  obtain ⟨t, ht, W1, hW1, e1⟩ := hidden_ex W hW
  obtain ⟨n, W2, hn, hW2, e2⟩ := any_call hW1 6 (by omega) (by omega)
  obtain ⟨fs, hfs, hl, W3, hW3, e3⟩ := findings_ex t n true W2 hW2 ht (by omega)
  exact ⟨t, ht, W1, hW1, e1, n, W2, hn, hW2, e2, fs, hfs, hl, W3, hW3, e3⟩
theorem poss_nil : possF [] = true := rfl
theorem cl_pos {fs : List Fg} {xs : List Nat} (h : Cl fs xs) : 0 < xs.length := by
  cases xs with
  | nil => have := h.no; rw [show sub fs [] = [] from rfl, poss_nil] at this; cases this
  | cons a b => simp
theorem both_ex (fs : List Fg) (d : D) (W : Wd) (h : FS fs) (hd : Vl d) : ∃ t, F_is_clash [.tup (fs.map fgD), d] W = .ret false (.bl t) W ∧ F__law_clashes [.tup (fs.map fgD), d] W = .ret false (.bl t) W := by
  rcases hd with hd | ⟨os, rfl, hl⟩
  · exact ⟨false, is_clash_no fs d W h hd, law_clashes_no _ d W hd⟩
  · obtain ⟨t, e1, g1⟩ := is_clash_ex false fs os W h hl
    obtain ⟨u, e2, g2⟩ := law_clashes_ex fs os W h hl
    have : t = u := by
      cases t <;> cases u
      · rfl
      · exact absurd (g1.mpr (g2.mp rfl)) (by simp)
      · exact absurd (g2.mpr (g1.mp rfl)) (by simp)
      · rfl
    subst this
    exact ⟨t, e1, e2⟩
theorem fs_1 : FS [([0, 1], false)] := ⟨⟨fun x hx => by rw [List.mem_singleton.mp hx]; exact pm_range (n := 2) (by omega), by simp⟩, fun x hx => by rw [List.mem_singleton.mp hx]; simp⟩
theorem fs_2 : FS [([1, 0], false), ([0], true)] := by
  refine ⟨⟨fun x hx => ?_, by simp⟩, fun x hx => ?_⟩
  · rcases List.mem_cons.mp hx with rfl | hx
    · exact pm_perm (List.Perm.swap 0 1 []) (pm_range (n := 2) (by omega))
    · rw [List.mem_singleton.mp hx]
      exact pm_range (n := 1) (by omega)
  · rcases List.mem_cons.mp hx with rfl | hx
    · simp
    · rw [List.mem_singleton.mp hx]
      simp
theorem end_1 (W : Wd) : F_is_clash [sqD true ([([0, 1], false)].map fgD), .tup ([some 0].map oD)] W = .ret false (.bl true) W := by
  obtain ⟨t, e, h⟩ := is_clash_ex true [([0, 1], false)] [some 0] W fs_1 (by simp)
  have : t = true := h.mpr ⟨[0], rfl, by simp, by simp, by decide +kernel, by decide +kernel⟩
  rw [e, this]
theorem end_2 (W : Wd) : F_clash [.lst ([([1, 0], false), ([0], true)].map fgD)] W = .ret false .non W := by
  rcases clash_ex [([1, 0], false), ([0], true)] W fs_2 with ⟨_, e⟩ | ⟨h, _⟩
  · exact e
  · have : possF [([1, 0], false), ([0], true)] = true := by decide +kernel
    rw [this] at h
    cases h
theorem law_true (ns : List Int) : ∃ W', f_law (lawC 8 (drawW ns 50)) = .ret false (.bl true) W' := by
  suffices hz : wpS (f_law ⟨[none, some (false, .deal), none, none, none, none, none, none, none, none], drawW ns 50⟩) ⟨fun _ => False, fun fr d _ => fr = false ∧ d = .bl true, fun _ => False, fun _ => False, fun _ _ => False⟩ by
    have e : lawC 8 (drawW ns 50) = ⟨[none, some (false, .deal), none, none, none, none, none, none, none, none], drawW ns 50⟩ := rfl
    rw [e]
    revert hz
    cases f_law ⟨[none, some (false, .deal), none, none, none, none, none, none, none, none], drawW ns 50⟩ with
    | nx c => exact fun h => h.h.elim
    | ret fr d W => exact fun h => ⟨W, by obtain ⟨h1, h2⟩ := h.h; rw [h1, h2]⟩
    | brk c => exact fun h => h.h.elim
    | cnt c => exact fun h => h.h.elim
    | exc x W => exact fun h => h.h.elim
    | bad => exact fun h => h.h.elim
  have hW0 := drawW_ok ns 50
  generalize drawW ns 50 = W0 at hW0 ⊢
  unfold f_law
  (repeat' get_elem_tactic_trivial)
  refine for_rng0 _ (fun k c => ∃ (x2 x3 x4 x5 x6 x7 x8 x9 : Option (Bool × D)) (W : Wd), c = ⟨[none, some (false, .deal), x2, x3, x4, x5, x6, x7, x8, x9], W⟩ ∧ WOk1 W) ⟨none, none, none, none, none, none, none, none, W0, rfl, hW0⟩ (fun k c hk hI => ?_) (fun c hI => ?_)
  · obtain ⟨x2, x3, x4, x5, x6, x7, x8, x9, W, rfl, hW⟩ := hI
    obtain ⟨t, ht, W1, hW1, e1⟩ := hidden_ex W hW
    obtain ⟨n, W2, hn, hW2, e2⟩ := any_call hW1 6 (by omega) (by omega)
    obtain ⟨fs, hfs, hl, W3, hW3, e3⟩ := findings_ex t n true W2 hW2 ht (by omega)
    obtain ⟨two, W4, h2, hW4, e4⟩ := any_call hW3 2 (by omega) (by omega)
    (repeat' get_elem_tactic_trivial)
    refine call_ret e1 rfl ?_
    (repeat' get_elem_tactic_trivial)
    refine call_ret e2 rfl ?_
    (repeat' get_elem_tactic_trivial)
    refine call_ret e3 rfl ?_
    (repeat' get_elem_tactic_trivial)
    refine call_ret e4 rfl ?_
    (repeat' get_elem_tactic_trivial)
    refine onBl_d (fun g => ?A) (fun g => ?B)
    case' B =>
      obtain ⟨gs, hgs, hgl, rfl⟩ : ∃ gs : List Fg, FS gs ∧ gs.length ≤ 20 ∧ gs = fs := ⟨fs, hfs, by omega, rfl⟩
      obtain ⟨W', hW', rfl⟩ : ∃ W', WOk1 W' ∧ W' = W4 := ⟨W4, hW4, rfl⟩
      (repeat' get_elem_tactic_trivial)
    case' A =>
      obtain ⟨t', ht', W5, hW5, e5⟩ := hidden_ex W4 hW4
      obtain ⟨n', W6, hn', hW6, e6⟩ := any_call hW5 3 (by omega) (by omega)
      obtain ⟨hs, hhs, hhl, W7, hW7, e7⟩ := findings_ex t' (n' + 1) false W6 hW6 ht' (by omega)
      rw [show (nD (n' + 1)) = .int (1 + (n' : Int)) by unfold nD; rw [show ((n' + 1 : Nat) : Int) = 1 + (n' : Int) by omega]] at e7
      obtain ⟨gs, hp, W', hW', e8⟩ := mixed_ex fgD 2 gd_fgD (by omega) true (fs ++ hs) W7 hW7 (by simp; omega)
      have hgs : FS gs := fs_perm hp (fs_app hfs hhs (by omega))
      have hgl : gs.length ≤ 20 := by rw [hp.length_eq, List.length_append]; omega
      (repeat' get_elem_tactic_trivial)
      refine call_ret e5 rfl ?_
      (repeat' get_elem_tactic_trivial)
      refine call_ret e6 rfl ?_
      (repeat' get_elem_tactic_trivial)
      refine call_ret e7 rfl ?_
      (repeat' get_elem_tactic_trivial)
      rw [← List.map_append]
      refine call_fr e8 rfl ?_
      (repeat' get_elem_tactic_trivial)
    all_goals
      refine call_ret (law_possible_eq false gs W' hgs) rfl ?_
      (repeat' get_elem_tactic_trivial)
      rcases clash_ex gs W' hgs with ⟨hp, e⟩ | ⟨hp, xs, hcl, e⟩
      · refine call_ret2 e rfl rfl rfl rfl ?_
        (repeat' get_elem_tactic_trivial)
        refine call_ret (widest_eq gs W' hgs.ok) rfl ?_
        (repeat' get_elem_tactic_trivial)
        refine onBl_ndf (by rw [hp]; rfl) ?_
        (repeat' get_elem_tactic_trivial)
        refine call_ret (agrees_eq (widest none gs) gs W' hgs.ok (widest_pos gs (fun t z => by cases z))) rfl ?_
        (repeat' get_elem_tactic_trivial)
        refine wO_some (ne_rep (possF gs)) ?_
        (repeat' get_elem_tactic_trivial)
        refine onBl_f ?_
        (repeat' get_elem_tactic_trivial)
        have hN : ∀ W, WOk1 W → ∃ d, Vl d ∧ ∃ W', WOk1 W' ∧ F__law_near_value [.deal, .non, nD gs.length] W = .ret false d W' := fun W hW => near_value_ex [0] .non (.inl ⟨rfl, rfl⟩) gs.length W hW (by simp) (by simp) hgl
        refine for_rng0 _ (fun m c => ∃ (x8 x9 : Option (Bool × D)) (W : Wd), c = ⟨[none, some (false, .deal), some (false, .int (k : Int)), some (false, tD t), some (false, .tup (gs.map fgD)), some (false, .bl (possF gs)), some (false, .non), some (false, frD (widest none gs)), x8, x9], W⟩ ∧ WOk1 W) ⟨x8, x9, W', rfl, hW'⟩ (fun m c hm hI => ?_) (fun c hI => ?_)
        · obtain ⟨x8, x9, W5, rfl, hW5⟩ := hI
          obtain ⟨d, hd, W6, hW6, e6⟩ := hN W5 hW5
          obtain ⟨b, e7, e8⟩ := both_ex gs d W6 hgs hd
          (repeat' get_elem_tactic_trivial)
          refine call_ret e6 rfl ?_
          (repeat' get_elem_tactic_trivial)
          refine call_ret2 e7 rfl rfl rfl rfl ?_
          (repeat' get_elem_tactic_trivial)
          refine call_ret e8 rfl ?_
          (repeat' get_elem_tactic_trivial)
          refine wO_some (ne_rep b) ?_
          (repeat' get_elem_tactic_trivial)
          exact ⟨_, _, W6, rfl, hW6⟩
        · obtain ⟨x8, x9, W5, rfl, hW5⟩ := hI
          exact ⟨_, _, _, _, _, _, _, _, W5, rfl, hW5⟩
      · have hxl := up_len hcl.up hcl.lt
        refine call_ret2 e rfl rfl rfl rfl ?_
        (repeat' get_elem_tactic_trivial)
        refine call_ret (widest_eq gs W' hgs.ok) rfl ?_
        (repeat' get_elem_tactic_trivial)
        refine onBl_ndf (by rw [hp]; rfl) ?_
        (repeat' get_elem_tactic_trivial)
        refine call_ret (agrees_eq (widest none gs) gs W' hgs.ok (widest_pos gs (fun t z => by cases z))) rfl ?_
        (repeat' get_elem_tactic_trivial)
        refine wO_some (ne_rep (possF gs)) ?_
        (repeat' get_elem_tactic_trivial)
        refine onBl_t ?_
        (repeat' get_elem_tactic_trivial)
        obtain ⟨b, e9, h9⟩ := law_clashes_ex gs (natO xs) W' hgs (by unfold natO; rw [List.length_map]; omega)
        have hb : b = true := h9.mpr ⟨xs, rfl, hcl⟩
        rw [natO_D, hb] at e9
        refine call_ret e9 rfl ?_
        (repeat' get_elem_tactic_trivial)
        have hN : ∀ W, WOk1 W → ∃ d, Vl d ∧ ∃ W', WOk1 W' ∧ F__law_near_value [.deal, .tup (xs.map nD), nD gs.length] W = .ret false d W' := fun W hW => near_value_ex xs _ (.inr rfl) gs.length W hW (cl_pos hcl) (by omega) hgl
        refine for_rng0 _ (fun m c => ∃ (x8 x9 : Option (Bool × D)) (W : Wd), c = ⟨[none, some (false, .deal), some (false, .int (k : Int)), some (false, tD t), some (false, .tup (gs.map fgD)), some (false, .bl (possF gs)), some (false, .tup (xs.map nD)), some (false, frD (widest none gs)), x8, x9], W⟩ ∧ WOk1 W) ⟨x8, x9, W', rfl, hW'⟩ (fun m c hm hI => ?_) (fun c hI => ?_)
        · obtain ⟨x8, x9, W5, rfl, hW5⟩ := hI
          obtain ⟨d, hd, W6, hW6, e6⟩ := hN W5 hW5
          obtain ⟨b, e7, e8⟩ := both_ex gs d W6 hgs hd
          (repeat' get_elem_tactic_trivial)
          refine call_ret e6 rfl ?_
          (repeat' get_elem_tactic_trivial)
          refine call_ret2 e7 rfl rfl rfl rfl ?_
          (repeat' get_elem_tactic_trivial)
          refine call_ret e8 rfl ?_
          (repeat' get_elem_tactic_trivial)
          refine wO_some (ne_rep b) ?_
          (repeat' get_elem_tactic_trivial)
          exact ⟨_, _, W6, rfl, hW6⟩
        · obtain ⟨x8, x9, W5, rfl, hW5⟩ := hI
          exact ⟨_, _, _, _, _, _, _, _, W5, rfl, hW5⟩
  · obtain ⟨x2, x3, x4, x5, x6, x7, x8, x9, W, rfl, hW⟩ := hI
    (repeat' get_elem_tactic_trivial)
    refine call_ret (end_1 W) rfl ?_
    (repeat' get_elem_tactic_trivial)
    refine onBl_dt rfl ?_
    (repeat' get_elem_tactic_trivial)
    refine call_ret (end_2 W) rfl ?_
    (repeat' get_elem_tactic_trivial)
    exact ⟨rfl, rfl⟩
end DL.K50
namespace DL.K50
open PySem PySem.Spec PyProof.Rows L2 DL
def top (i : Nat) : Stmt := PySem.Challenge.pw_wheelsandends_k50_whole_widest_triples_a.main.body.getD i (.Pass ⟨0, 0, 0, 0⟩)
abbrev st_is_integer : Stmt := top 5
abbrev st_is_number : Stmt := top 6
abbrev st_is_sequence : Stmt := top 7
abbrev st_is_index : Stmt := top 8
abbrev st_divisor : Stmt := top 9
abbrev st_fault : Stmt := top 11
abbrev st_checked_reordering : Stmt := top 12
abbrev st_frame : Stmt := top 13
abbrev st_is_allowed : Stmt := top 15
abbrev st_triple_fault : Stmt := top 17
abbrev st_checked_triple : Stmt := top 18
abbrev st_is_finding : Stmt := top 20
abbrev st_checked_findings : Stmt := top 21
abbrev st_agrees_with : Stmt := top 22
abbrev st_agrees : Stmt := top 23
abbrev st_widest_of : Stmt := top 24
abbrev st_widest : Stmt := top 25
abbrev st_is_possible : Stmt := top 26
abbrev st_clash : Stmt := top 27
abbrev st_is_clash : Stmt := top 28
abbrev st__law_draw : Stmt := top 30
abbrev st__law_any : Stmt := top 31
abbrev st__law_of : Stmt := top 32
abbrev st__law_mixed : Stmt := top 33
abbrev st__law_reordering : Stmt := top 34
abbrev st__law_near : Stmt := top 35
abbrev st__law_lets : Stmt := top 36
abbrev st__law_frame : Stmt := top 37
abbrev st__law_hidden : Stmt := top 38
abbrev st__law_found : Stmt := top 39
abbrev st__law_findings : Stmt := top 40
abbrev st__law_gcd : Stmt := top 41
abbrev st__law_bound : Stmt := top 42
abbrev st__law_left : Stmt := top 43
abbrev st__law_possible : Stmt := top 44
abbrev st__law_clashes : Stmt := top 45
abbrev st__law_near_value : Stmt := top 46
abbrev st_law : Stmt := top 47
theorem bt_abs : bootBuiltins "abs" = some (.builtin "abs") := by with_unfolding_all rfl
theorem bt_all : bootBuiltins "all" = some (.builtin "all") := by with_unfolding_all rfl
theorem bt_any : bootBuiltins "any" = some (.builtin "any") := by with_unfolding_all rfl
theorem bt_bool : bootBuiltins "bool" = some (.type "bool") := by with_unfolding_all rfl
theorem bt_int : bootBuiltins "int" = some (.type "int") := by with_unfolding_all rfl
theorem bt_isinstance : bootBuiltins "isinstance" = some (.builtin "isinstance") := by with_unfolding_all rfl
theorem bt_len : bootBuiltins "len" = some (.builtin "len") := by with_unfolding_all rfl
theorem bt_list : bootBuiltins "list" = some (.type "list") := by with_unfolding_all rfl
theorem bt_max : bootBuiltins "max" = some (.builtin "max") := by with_unfolding_all rfl
theorem bt_min : bootBuiltins "min" = some (.builtin "min") := by with_unfolding_all rfl
theorem bt_repr : bootBuiltins "repr" = some (.builtin "repr") := by with_unfolding_all rfl
theorem bt_set : bootBuiltins "set" = some (.type "set") := by with_unfolding_all rfl
theorem bt_sorted : bootBuiltins "sorted" = some (.builtin "sorted") := by with_unfolding_all rfl
theorem bt_sum : bootBuiltins "sum" = some (.builtin "sum") := by with_unfolding_all rfl
theorem bt_tuple : bootBuiltins "tuple" = some (.type "tuple") := by with_unfolding_all rfl
/-- what the top has written -/
structure Txt (K : PySem.W.Frag) (mg : Str → Option Value) where
  A_is_integer : Addr
  D_is_integer : FuncData
  g_is_integer : mg "is_integer" = some (.ref A_is_integer)
  F_is_integer : Fun K "is_integer" "is_integer" st_is_integer A_is_integer D_is_integer
  A_is_number : Addr
  D_is_number : FuncData
  g_is_number : mg "is_number" = some (.ref A_is_number)
  F_is_number : Fun K "is_number" "is_number" st_is_number A_is_number D_is_number
  A_is_sequence : Addr
  D_is_sequence : FuncData
  g_is_sequence : mg "is_sequence" = some (.ref A_is_sequence)
  F_is_sequence : Fun K "is_sequence" "is_sequence" st_is_sequence A_is_sequence D_is_sequence
  A_is_index : Addr
  D_is_index : FuncData
  g_is_index : mg "is_index" = some (.ref A_is_index)
  F_is_index : Fun K "is_index" "is_index" st_is_index A_is_index D_is_index
  A_divisor : Addr
  D_divisor : FuncData
  g_divisor : mg "divisor" = some (.ref A_divisor)
  F_divisor : Fun K "divisor" "divisor" st_divisor A_divisor D_divisor
  A_fault : Addr
  D_fault : FuncData
  g_fault : mg "fault" = some (.ref A_fault)
  F_fault : Fun K "fault" "fault" st_fault A_fault D_fault
  A_checked_reordering : Addr
  D_checked_reordering : FuncData
  g_checked_reordering : mg "checked_reordering" = some (.ref A_checked_reordering)
  F_checked_reordering : Fun K "checked_reordering" "checked_reordering" st_checked_reordering A_checked_reordering D_checked_reordering
  A_frame : Addr
  D_frame : FuncData
  g_frame : mg "frame" = some (.ref A_frame)
  F_frame : Fun K "frame" "frame" st_frame A_frame D_frame
  A_is_allowed : Addr
  D_is_allowed : FuncData
  g_is_allowed : mg "is_allowed" = some (.ref A_is_allowed)
  F_is_allowed : Fun K "is_allowed" "is_allowed" st_is_allowed A_is_allowed D_is_allowed
  A_triple_fault : Addr
  D_triple_fault : FuncData
  g_triple_fault : mg "triple_fault" = some (.ref A_triple_fault)
  F_triple_fault : Fun K "triple_fault" "triple_fault" st_triple_fault A_triple_fault D_triple_fault
  A_checked_triple : Addr
  D_checked_triple : FuncData
  g_checked_triple : mg "checked_triple" = some (.ref A_checked_triple)
  F_checked_triple : Fun K "checked_triple" "checked_triple" st_checked_triple A_checked_triple D_checked_triple
  A_is_finding : Addr
  D_is_finding : FuncData
  g_is_finding : mg "is_finding" = some (.ref A_is_finding)
  F_is_finding : Fun K "is_finding" "is_finding" st_is_finding A_is_finding D_is_finding
  A_checked_findings : Addr
  D_checked_findings : FuncData
  g_checked_findings : mg "checked_findings" = some (.ref A_checked_findings)
  F_checked_findings : Fun K "checked_findings" "checked_findings" st_checked_findings A_checked_findings D_checked_findings
  A_agrees_with : Addr
  D_agrees_with : FuncData
  g_agrees_with : mg "agrees_with" = some (.ref A_agrees_with)
  F_agrees_with : Fun K "agrees_with" "agrees_with" st_agrees_with A_agrees_with D_agrees_with
  A_agrees : Addr
  D_agrees : FuncData
  g_agrees : mg "agrees" = some (.ref A_agrees)
  F_agrees : Fun K "agrees" "agrees" st_agrees A_agrees D_agrees
  A_widest_of : Addr
  D_widest_of : FuncData
  g_widest_of : mg "widest_of" = some (.ref A_widest_of)
  F_widest_of : Fun K "widest_of" "widest_of" st_widest_of A_widest_of D_widest_of
  A_widest : Addr
  D_widest : FuncData
  g_widest : mg "widest" = some (.ref A_widest)
  F_widest : Fun K "widest" "widest" st_widest A_widest D_widest
  A_is_possible : Addr
  D_is_possible : FuncData
  g_is_possible : mg "is_possible" = some (.ref A_is_possible)
  F_is_possible : Fun K "is_possible" "is_possible" st_is_possible A_is_possible D_is_possible
  A_clash : Addr
  D_clash : FuncData
  g_clash : mg "clash" = some (.ref A_clash)
  F_clash : Fun K "clash" "clash" st_clash A_clash D_clash
  A_is_clash : Addr
  D_is_clash : FuncData
  g_is_clash : mg "is_clash" = some (.ref A_is_clash)
  F_is_clash : Fun K "is_clash" "is_clash" st_is_clash A_is_clash D_is_clash
  A__law_draw : Addr
  D__law_draw : FuncData
  g__law_draw : mg "_law_draw" = some (.ref A__law_draw)
  F__law_draw : Fun K "_law_draw" "_law_draw" st__law_draw A__law_draw D__law_draw
  A__law_any : Addr
  D__law_any : FuncData
  g__law_any : mg "_law_any" = some (.ref A__law_any)
  F__law_any : Fun K "_law_any" "_law_any" st__law_any A__law_any D__law_any
  A__law_of : Addr
  D__law_of : FuncData
  g__law_of : mg "_law_of" = some (.ref A__law_of)
  F__law_of : Fun K "_law_of" "_law_of" st__law_of A__law_of D__law_of
  A__law_mixed : Addr
  D__law_mixed : FuncData
  g__law_mixed : mg "_law_mixed" = some (.ref A__law_mixed)
  F__law_mixed : Fun K "_law_mixed" "_law_mixed" st__law_mixed A__law_mixed D__law_mixed
  A__law_reordering : Addr
  D__law_reordering : FuncData
  g__law_reordering : mg "_law_reordering" = some (.ref A__law_reordering)
  F__law_reordering : Fun K "_law_reordering" "_law_reordering" st__law_reordering A__law_reordering D__law_reordering
  A__law_near : Addr
  D__law_near : FuncData
  g__law_near : mg "_law_near" = some (.ref A__law_near)
  F__law_near : Fun K "_law_near" "_law_near" st__law_near A__law_near D__law_near
  A__law_lets : Addr
  D__law_lets : FuncData
  g__law_lets : mg "_law_lets" = some (.ref A__law_lets)
  F__law_lets : Fun K "_law_lets" "_law_lets" st__law_lets A__law_lets D__law_lets
  A__law_frame : Addr
  D__law_frame : FuncData
  g__law_frame : mg "_law_frame" = some (.ref A__law_frame)
  F__law_frame : Fun K "_law_frame" "_law_frame" st__law_frame A__law_frame D__law_frame
  A__law_hidden : Addr
  D__law_hidden : FuncData
  g__law_hidden : mg "_law_hidden" = some (.ref A__law_hidden)
  F__law_hidden : Fun K "_law_hidden" "_law_hidden" st__law_hidden A__law_hidden D__law_hidden
  A__law_found : Addr
  D__law_found : FuncData
  g__law_found : mg "_law_found" = some (.ref A__law_found)
  F__law_found : Fun K "_law_found" "_law_found" st__law_found A__law_found D__law_found
  A__law_findings : Addr
  D__law_findings : FuncData
  g__law_findings : mg "_law_findings" = some (.ref A__law_findings)
  F__law_findings : Fun K "_law_findings" "_law_findings" st__law_findings A__law_findings D__law_findings
  A__law_gcd : Addr
  D__law_gcd : FuncData
  g__law_gcd : mg "_law_gcd" = some (.ref A__law_gcd)
  F__law_gcd : Fun K "_law_gcd" "_law_gcd" st__law_gcd A__law_gcd D__law_gcd
  A__law_bound : Addr
  D__law_bound : FuncData
  g__law_bound : mg "_law_bound" = some (.ref A__law_bound)
  F__law_bound : Fun K "_law_bound" "_law_bound" st__law_bound A__law_bound D__law_bound
  A__law_left : Addr
  D__law_left : FuncData
  g__law_left : mg "_law_left" = some (.ref A__law_left)
  F__law_left : Fun K "_law_left" "_law_left" st__law_left A__law_left D__law_left
  A__law_possible : Addr
  D__law_possible : FuncData
  g__law_possible : mg "_law_possible" = some (.ref A__law_possible)
  F__law_possible : Fun K "_law_possible" "_law_possible" st__law_possible A__law_possible D__law_possible
  A__law_clashes : Addr
  D__law_clashes : FuncData
  g__law_clashes : mg "_law_clashes" = some (.ref A__law_clashes)
  F__law_clashes : Fun K "_law_clashes" "_law_clashes" st__law_clashes A__law_clashes D__law_clashes
  A__law_near_value : Addr
  D__law_near_value : FuncData
  g__law_near_value : mg "_law_near_value" = some (.ref A__law_near_value)
  F__law_near_value : Fun K "_law_near_value" "_law_near_value" st__law_near_value A__law_near_value D__law_near_value
  A_law : Addr
  D_law : FuncData
  g_law : mg "law" = some (.ref A_law)
  F_law : Fun K "law" "law" st_law A_law D_law
  n_abs : mg "abs" = none
  n_all : mg "all" = none
  n_any : mg "any" = none
  n_bool : mg "bool" = none
  n_enumerate : mg "enumerate" = none
  n_int : mg "int" = none
  n_isinstance : mg "isinstance" = none
  n_len : mg "len" = none
  n_list : mg "list" = none
  n_max : mg "max" = none
  n_min : mg "min" = none
  n_range : mg "range" = none
  n_repr : mg "repr" = none
  n_set : mg "set" = none
  n_sorted : mg "sorted" = none
  n_sum : mg "sum" = none
  n_tuple : mg "tuple" = none
section
variable {P : Program} {w : World} {K : PySem.W.Frag} {mg : Str → Option Value} {base : Heap} {A : Am}
theorem sc_is_integer : FnScope ["value"] ["value"] (defScope st_is_integer) := ⟨rfl, rfl, rfl, by decide +kernel, rfl, by decide +kernel, by decide +kernel⟩
theorem b_is_integer (T : Txt K mg) : Binds K T.D_is_integer ["value"] [] := T.F_is_integer.binds (ps := ["value"]) fun _ _ _ _ _ _ us hl => match us, hl with | [_], _ => rfl
theorem sc_is_number : FnScope ["value"] ["value"] (defScope st_is_number) := ⟨rfl, rfl, rfl, by decide +kernel, rfl, by decide +kernel, by decide +kernel⟩
theorem b_is_number (T : Txt K mg) : Binds K T.D_is_number ["value"] [] := T.F_is_number.binds (ps := ["value"]) fun _ _ _ _ _ _ us hl => match us, hl with | [_], _ => rfl
theorem sc_is_sequence : FnScope ["value"] ["value"] (defScope st_is_sequence) := ⟨rfl, rfl, rfl, by decide +kernel, rfl, by decide +kernel, by decide +kernel⟩
theorem b_is_sequence (T : Txt K mg) : Binds K T.D_is_sequence ["value"] [] := T.F_is_sequence.binds (ps := ["value"]) fun _ _ _ _ _ _ us hl => match us, hl with | [_], _ => rfl
theorem sc_is_index : FnScope ["value", "many"] ["value", "many"] (defScope st_is_index) := ⟨rfl, rfl, rfl, by decide +kernel, rfl, by decide +kernel, by decide +kernel⟩
theorem b_is_index (T : Txt K mg) : Binds K T.D_is_index ["value", "many"] [] := T.F_is_index.binds (ps := ["value", "many"]) fun _ _ _ _ _ _ us hl => match us, hl with | [_, _], _ => rfl
theorem sc_divisor : FnScope ["one", "other"] ["one", "other"] (defScope st_divisor) := ⟨rfl, rfl, rfl, by decide +kernel, rfl, by decide +kernel, by decide +kernel⟩
theorem b_divisor (T : Txt K mg) : Binds K T.D_divisor ["one", "other"] [] := T.F_divisor.binds (ps := ["one", "other"]) fun _ _ _ _ _ _ us hl => match us, hl with | [_, _], _ => rfl
theorem sc_fault : FnScope ["value", "seen", "at", "place"] ["value"] (defScope st_fault) := ⟨rfl, rfl, rfl, by decide +kernel, rfl, by decide +kernel, by decide +kernel⟩
theorem b_fault (T : Txt K mg) : Binds K T.D_fault ["value"] [] := T.F_fault.binds (ps := ["value"]) fun _ _ _ _ _ _ us hl => match us, hl with | [_], _ => rfl
theorem sc_checked_reordering : FnScope ["value", "at"] ["value"] (defScope st_checked_reordering) := ⟨rfl, rfl, rfl, by decide +kernel, rfl, by decide +kernel, by decide +kernel⟩
theorem b_checked_reordering (T : Txt K mg) : Binds K T.D_checked_reordering ["value"] [] := T.F_checked_reordering.binds (ps := ["value"]) fun _ _ _ _ _ _ us hl => match us, hl with | [_], _ => rfl
theorem sc_frame : FnScope ["reordering", "places", "moved", "step", "at", "place"] ["reordering"] (defScope st_frame) := ⟨rfl, rfl, rfl, by decide +kernel, rfl, by decide +kernel, by decide +kernel⟩
theorem b_frame (T : Txt K mg) : Binds K T.D_frame ["reordering"] [] := T.F_frame.binds (ps := ["reordering"]) fun _ _ _ _ _ _ us hl => match us, hl with | [_], _ => rfl
theorem sc_is_allowed : FnScope ["triple", "reordering", "places", "moved", "first", "last", "step", "at", "place"] ["triple", "reordering"] (defScope st_is_allowed) := ⟨rfl, rfl, rfl, by decide +kernel, rfl, by decide +kernel, by decide +kernel⟩
theorem b_is_allowed (T : Txt K mg) : Binds K T.D_is_allowed ["triple", "reordering"] [] := T.F_is_allowed.binds (ps := ["triple", "reordering"]) fun _ _ _ _ _ _ us hl => match us, hl with | [_, _], _ => rfl
theorem sc_triple_fault : FnScope ["value", "at", "number"] ["value"] (defScope st_triple_fault) := ⟨rfl, rfl, rfl, by decide +kernel, rfl, by decide +kernel, by decide +kernel⟩
theorem b_triple_fault (T : Txt K mg) : Binds K T.D_triple_fault ["value"] [] := T.F_triple_fault.binds (ps := ["value"]) fun _ _ _ _ _ _ us hl => match us, hl with | [_], _ => rfl
theorem sc_checked_triple : FnScope ["value", "at"] ["value"] (defScope st_checked_triple) := ⟨rfl, rfl, rfl, by decide +kernel, rfl, by decide +kernel, by decide +kernel⟩
theorem b_checked_triple (T : Txt K mg) : Binds K T.D_checked_triple ["value"] [] := T.F_checked_triple.binds (ps := ["value"]) fun _ _ _ _ _ _ us hl => match us, hl with | [_], _ => rfl
theorem sc_is_finding : FnScope ["value"] ["value"] (defScope st_is_finding) := ⟨rfl, rfl, rfl, by decide +kernel, rfl, by decide +kernel, by decide +kernel⟩
theorem b_is_finding (T : Txt K mg) : Binds K T.D_is_finding ["value"] [] := T.F_is_finding.binds (ps := ["value"]) fun _ _ _ _ _ _ us hl => match us, hl with | [_], _ => rfl
theorem sc_checked_findings : FnScope ["value", "at", "entry"] ["value"] (defScope st_checked_findings) := ⟨rfl, rfl, rfl, by decide +kernel, rfl, by decide +kernel, by decide +kernel⟩
theorem b_checked_findings (T : Txt K mg) : Binds K T.D_checked_findings ["value"] [] := T.F_checked_findings.binds (ps := ["value"]) fun _ _ _ _ _ _ us hl => match us, hl with | [_], _ => rfl
theorem sc_agrees_with : FnScope ["numbers", "findings", "reordering", "harmless"] ["numbers", "findings"] (defScope st_agrees_with) := ⟨rfl, rfl, rfl, by decide +kernel, rfl, by decide +kernel, by decide +kernel⟩
theorem b_agrees_with (T : Txt K mg) : Binds K T.D_agrees_with ["numbers", "findings"] [] := T.F_agrees_with.binds (ps := ["numbers", "findings"]) fun _ _ _ _ _ _ us hl => match us, hl with | [_, _], _ => rfl
theorem sc_agrees : FnScope ["triple", "told", "numbers"] ["triple", "told"] (defScope st_agrees) := ⟨rfl, rfl, rfl, by decide +kernel, rfl, by decide +kernel, by decide +kernel⟩
theorem b_agrees (T : Txt K mg) : Binds K T.D_agrees ["triple", "told"] [] := T.F_agrees.binds (ps := ["triple", "told"]) fun _ _ _ _ _ _ us hl => match us, hl with | [_, _], _ => rfl
theorem sc_widest_of : FnScope ["findings", "found", "reordering", "harmless", "told"] ["findings"] (defScope st_widest_of) := ⟨rfl, rfl, rfl, by decide +kernel, rfl, by decide +kernel, by decide +kernel⟩
theorem b_widest_of (T : Txt K mg) : Binds K T.D_widest_of ["findings"] [] := T.F_widest_of.binds (ps := ["findings"]) fun _ _ _ _ _ _ us hl => match us, hl with | [_], _ => rfl
theorem sc_widest : FnScope ["told"] ["told"] (defScope st_widest) := ⟨rfl, rfl, rfl, by decide +kernel, rfl, by decide +kernel, by decide +kernel⟩
theorem b_widest (T : Txt K mg) : Binds K T.D_widest ["told"] [] := T.F_widest.binds (ps := ["told"]) fun _ _ _ _ _ _ us hl => match us, hl with | [_], _ => rfl
theorem sc_is_possible : FnScope ["findings"] ["findings"] (defScope st_is_possible) := ⟨rfl, rfl, rfl, by decide +kernel, rfl, by decide +kernel, by decide +kernel⟩
theorem b_is_possible (T : Txt K mg) : Binds K T.D_is_possible ["findings"] [] := T.F_is_possible.binds (ps := ["findings"]) fun _ _ _ _ _ _ us hl => match us, hl with | [_], _ => rfl
theorem sc_clash : FnScope ["told", "findings", "kept", "at", "fewer", "one"] ["told"] (defScope st_clash) := ⟨rfl, rfl, rfl, by decide +kernel, rfl, by decide +kernel, by decide +kernel⟩
theorem b_clash (T : Txt K mg) : Binds K T.D_clash ["told"] [] := T.F_clash.binds (ps := ["told"]) fun _ _ _ _ _ _ us hl => match us, hl with | [_], _ => rfl
theorem sc_is_clash : FnScope ["told", "value", "findings", "one", "at"] ["told", "value"] (defScope st_is_clash) := ⟨rfl, rfl, rfl, by decide +kernel, rfl, by decide +kernel, by decide +kernel⟩
theorem b_is_clash (T : Txt K mg) : Binds K T.D_is_clash ["told", "value"] [] := T.F_is_clash.binds (ps := ["told", "value"]) fun _ _ _ _ _ _ us hl => match us, hl with | [_, _], _ => rfl
theorem sc__law_draw : FnScope ["script", "salt", "cells", "blend", "cell"] ["script", "salt"] (defScope st__law_draw) := ⟨rfl, rfl, rfl, by decide +kernel, rfl, by decide +kernel, by decide +kernel⟩
theorem b__law_draw (T : Txt K mg) : Binds K T.D__law_draw ["script", "salt"] [] := T.F__law_draw.binds (ps := ["script", "salt"]) fun _ _ _ _ _ _ us hl => match us, hl with | [_, _], _ => rfl
theorem sc__law_any : FnScope ["deal", "bound", "rest"] ["deal", "bound"] (defScope st__law_any) := ⟨rfl, rfl, rfl, by decide +kernel, rfl, by decide +kernel, by decide +kernel⟩
theorem b__law_any (T : Txt K mg) : Binds K T.D__law_any ["deal", "bound"] [] := T.F__law_any.binds (ps := ["deal", "bound"]) fun _ _ _ _ _ _ us hl => match us, hl with | [_, _], _ => rfl
theorem sc__law_of : FnScope ["deal", "some"] ["deal", "some"] (defScope st__law_of) := ⟨rfl, rfl, rfl, by decide +kernel, rfl, by decide +kernel, by decide +kernel⟩
theorem b__law_of (T : Txt K mg) : Binds K T.D__law_of ["deal", "some"] [] := T.F__law_of.binds (ps := ["deal", "some"]) fun _ _ _ _ _ _ us hl => match us, hl with | [_, _], _ => rfl
theorem sc__law_mixed : FnScope ["deal", "some", "left", "found"] ["deal", "some"] (defScope st__law_mixed) := ⟨rfl, rfl, rfl, by decide +kernel, rfl, by decide +kernel, by decide +kernel⟩
theorem b__law_mixed (T : Txt K mg) : Binds K T.D__law_mixed ["deal", "some"] [] := T.F__law_mixed.binds (ps := ["deal", "some"]) fun _ _ _ _ _ _ us hl => match us, hl with | [_, _], _ => rfl
theorem sc__law_reordering : FnScope ["deal", "many", "triple", "first", "last", "step", "p", "rest", "lot", "at", "place"] ["deal", "many", "triple"] (defScope st__law_reordering) := ⟨rfl, rfl, rfl, by decide +kernel, rfl, by decide +kernel, by decide +kernel⟩
theorem b__law_reordering (T : Txt K mg) : Binds K T.D__law_reordering ["deal", "many", "triple"] [] := T.F__law_reordering.binds (ps := ["deal", "many", "triple"]) fun _ _ _ _ _ _ us hl => match us, hl with | [_, _, _], _ => rfl
theorem sc__law_near : FnScope ["deal", "p", "i", "j"] ["deal", "p"] (defScope st__law_near) := ⟨rfl, rfl, rfl, by decide +kernel, rfl, by decide +kernel, by decide +kernel⟩
theorem b__law_near (T : Txt K mg) : Binds K T.D__law_near ["deal", "p"] [] := T.F__law_near.binds (ps := ["deal", "p"]) fun _ _ _ _ _ _ us hl => match us, hl with | [_, _], _ => rfl
theorem sc__law_lets : FnScope ["p", "triple", "first", "last", "step", "at", "place"] ["p", "triple"] (defScope st__law_lets) := ⟨rfl, rfl, rfl, by decide +kernel, rfl, by decide +kernel, by decide +kernel⟩
theorem b__law_lets (T : Txt K mg) : Binds K T.D__law_lets ["p", "triple"] [] := T.F__law_lets.binds (ps := ["p", "triple"]) fun _ _ _ _ _ _ us hl => match us, hl with | [_, _], _ => rfl
theorem sc__law_frame : FnScope ["p", "moved", "gaps", "fit", "at", "place", "step", "gap"] ["p"] (defScope st__law_frame) := ⟨rfl, rfl, rfl, by decide +kernel, rfl, by decide +kernel, by decide +kernel⟩
theorem b__law_frame (T : Txt K mg) : Binds K T.D__law_frame ["p"] [] := T.F__law_frame.binds (ps := ["p"]) fun _ _ _ _ _ _ us hl => match us, hl with | [_], _ => rfl
theorem sc__law_hidden : FnScope ["deal"] ["deal"] (defScope st__law_hidden) := ⟨rfl, rfl, rfl, by decide +kernel, rfl, by decide +kernel, by decide +kernel⟩
theorem b__law_hidden (T : Txt K mg) : Binds K T.D__law_hidden ["deal"] [] := T.F__law_hidden.binds (ps := ["deal"]) fun _ _ _ _ _ _ us hl => match us, hl with | [_], _ => rfl
theorem sc__law_found : FnScope ["deal", "hidden", "form", "many", "p", "a", "b", "s", "q"] ["deal", "hidden"] (defScope st__law_found) := ⟨rfl, rfl, rfl, by decide +kernel, rfl, by decide +kernel, by decide +kernel⟩
theorem b__law_found (T : Txt K mg) : Binds K T.D__law_found ["deal", "hidden"] [] := T.F__law_found.binds (ps := ["deal", "hidden"]) fun _ _ _ _ _ _ us hl => match us, hl with | [_, _], _ => rfl
theorem sc__law_findings : FnScope ["deal", "hidden", "many", "wrong", "found", "turn", "p", "at"] ["deal", "hidden", "many", "wrong"] (defScope st__law_findings) := ⟨rfl, rfl, rfl, by decide +kernel, rfl, by decide +kernel, by decide +kernel⟩
theorem b__law_findings (T : Txt K mg) : Binds K T.D__law_findings ["deal", "hidden", "many", "wrong"] [] := T.F__law_findings.binds (ps := ["deal", "hidden", "many", "wrong"]) fun _ _ _ _ _ _ us hl => match us, hl with | [_, _, _, _], _ => rfl
theorem sc__law_gcd : FnScope ["one", "other"] ["one", "other"] (defScope st__law_gcd) := ⟨rfl, rfl, rfl, by decide +kernel, rfl, by decide +kernel, by decide +kernel⟩
theorem b__law_gcd (T : Txt K mg) : Binds K T.D__law_gcd ["one", "other"] [] := T.F__law_gcd.binds (ps := ["one", "other"]) fun _ _ _ _ _ _ us hl => match us, hl with | [_, _], _ => rfl
theorem sc__law_bound : FnScope ["told", "frames", "step", "one", "p", "harmless"] ["told"] (defScope st__law_bound) := ⟨rfl, rfl, rfl, by decide +kernel, rfl, by decide +kernel, by decide +kernel⟩
theorem b__law_bound (T : Txt K mg) : Binds K T.D__law_bound ["told"] [] := T.F__law_bound.binds (ps := ["told"]) fun _ _ _ _ _ _ us hl => match us, hl with | [_], _ => rfl
theorem sc__law_left : FnScope ["told", "first", "last", "step", "harms", "found", "a", "b", "s", "p", "harmless", "h"] ["told"] (defScope st__law_left) := ⟨rfl, rfl, rfl, by decide +kernel, rfl, by decide +kernel, by decide +kernel⟩
theorem b__law_left (T : Txt K mg) : Binds K T.D__law_left ["told"] [] := T.F__law_left.binds (ps := ["told"]) fun _ _ _ _ _ _ us hl => match us, hl with | [_], _ => rfl
theorem sc__law_possible : FnScope ["told", "p", "harmless"] ["told"] (defScope st__law_possible) := ⟨rfl, rfl, rfl, by decide +kernel, rfl, by decide +kernel, by decide +kernel⟩
theorem b__law_possible (T : Txt K mg) : Binds K T.D__law_possible ["told"] [] := T.F__law_possible.binds (ps := ["told"]) fun _ _ _ _ _ _ us hl => match us, hl with | [_], _ => rfl
theorem sc__law_clashes : FnScope ["told", "value", "one", "at"] ["told", "value"] (defScope st__law_clashes) := ⟨rfl, rfl, rfl, by decide +kernel, rfl, by decide +kernel, by decide +kernel⟩
theorem b__law_clashes (T : Txt K mg) : Binds K T.D__law_clashes ["told", "value"] [] := T.F__law_clashes.binds (ps := ["told", "value"]) fun _ _ _ _ _ _ us hl => match us, hl with | [_, _], _ => rfl
theorem sc__law_near_value : FnScope ["deal", "value", "many", "row", "at", "spot", "some"] ["deal", "value", "many"] (defScope st__law_near_value) := ⟨rfl, rfl, rfl, by decide +kernel, rfl, by decide +kernel, by decide +kernel⟩
theorem b__law_near_value (T : Txt K mg) : Binds K T.D__law_near_value ["deal", "value", "many"] [] := T.F__law_near_value.binds (ps := ["deal", "value", "many"]) fun _ _ _ _ _ _ us hl => match us, hl with | [_, _, _], _ => rfl
theorem sc_law : FnScope ["script", "deal", "turn", "hidden", "told", "due", "value", "most", "more", "other"] ["script"] (defScope st_law) := ⟨rfl, rfl, rfl, by decide +kernel, rfl, by decide +kernel, by decide +kernel⟩
theorem b_law (T : Txt K mg) : Binds K T.D_law ["script"] [] := T.F_law.binds (ps := ["script"]) fun _ _ _ _ _ _ us hl => match us, hl with | [_], _ => rfl
theorem ok_is_integer (T : Txt K mg) (hA : A.K = K) : FnOk P w K mg base (L2.CX P w) 1 T.A_is_integer T.D_is_integer ["value"] (spD A 1 F_is_integer) := by
  exact def_ok (k := 0) T.F_is_integer sc_is_integer rfl fun cdv Ar outer sh H Hb E hr => by
    have hK : K = A.K := hA.symm
    have nd := sc_is_integer.nd
    have hu : (Ar.deeper (envOfC "is_integer" (defScope st_is_integer) sh.heap.objs.size T.A_is_integer cdv)).units + 65 < cLine := by have := hr.un; omega
    have hu4 : (Ar.deeper (envOfC "is_integer" (defScope st_is_integer) sh.heap.objs.size T.A_is_integer cdv)).units + 64 < cLine := by omega
    have ho := passes_of (X := cxOf (L2.CX P w) P w K mg base ["value"] "is_integer" (defScope st_is_integer) T.A_is_integer cdv Ar outer sh H E) rfl
    have hp : Passes (L2.CX P w) (cxOf (L2.CX P w) P w K mg base ["value"] "is_integer" (defScope st_is_integer) T.A_is_integer cdv Ar outer sh H E) E := passes_call (takes_of rfl rfl rfl rfl) fun _ _ _ _ h => h
    exact (dss_one (ds_ret (de_and (de_isi1 (t := .int) (u := .none) rfl T.n_isinstance rfl T.n_int bt_int (de_bor (pv 0))) (de_one (de_not (de_isi1 (t := .bool) (u := .none) rfl T.n_isinstance rfl T.n_bool bt_bool (de_bor (pv 0))))))))
theorem ok_is_number (T : Txt K mg) (hA : A.K = K) : FnOk P w K mg base (L2.CX P w) 2 T.A_is_number T.D_is_number ["value"] (spD A 1 F_is_number) := by
  have G_is_integer := ok_is_integer (P := P) (w := w) (base := base) (A := A) T hA
  exact def_ok (k := 1) T.F_is_number sc_is_number rfl fun cdv Ar outer sh H Hb E hr => by
    have hK : K = A.K := hA.symm
    have nd := sc_is_number.nd
    have hu : (Ar.deeper (envOfC "is_number" (defScope st_is_number) sh.heap.objs.size T.A_is_number cdv)).units + 65 < cLine := by have := hr.un; omega
    have hu4 : (Ar.deeper (envOfC "is_number" (defScope st_is_number) sh.heap.objs.size T.A_is_number cdv)).units + 64 < cLine := by omega
    have ho := passes_of (X := cxOf (L2.CX P w) P w K mg base ["value"] "is_number" (defScope st_is_number) T.A_is_number cdv Ar outer sh H E) rfl
    have hp : Passes (L2.CX P w) (cxOf (L2.CX P w) P w K mg base ["value"] "is_number" (defScope st_is_number) T.A_is_number cdv Ar outer sh H E) E := passes_call (takes_of rfl rfl rfl rfl) fun _ _ _ _ h => h
    exact (dss_one (ds_ret (de_and (de_call (Calls.of G_is_integer (hr.mono (by decide))) hp rfl T.g_is_integer T.F_is_integer.kp (b_is_integer T) (da_cons (de_var (pv 0)) da_nil)) (de_one (de_cmp od_ge (de_bor (pv 0)) de_int (nomark _))))))
theorem ok_is_sequence (T : Txt K mg) (hA : A.K = K) : FnOk P w K mg base (L2.CX P w) 1 T.A_is_sequence T.D_is_sequence ["value"] (spD A 1 F_is_sequence) := by
  exact def_ok (k := 0) T.F_is_sequence sc_is_sequence rfl fun cdv Ar outer sh H Hb E hr => by
    have hK : K = A.K := hA.symm
    have nd := sc_is_sequence.nd
    have hu : (Ar.deeper (envOfC "is_sequence" (defScope st_is_sequence) sh.heap.objs.size T.A_is_sequence cdv)).units + 65 < cLine := by have := hr.un; omega
    have hu4 : (Ar.deeper (envOfC "is_sequence" (defScope st_is_sequence) sh.heap.objs.size T.A_is_sequence cdv)).units + 64 < cLine := by omega
    have ho := passes_of (X := cxOf (L2.CX P w) P w K mg base ["value"] "is_sequence" (defScope st_is_sequence) T.A_is_sequence cdv Ar outer sh H E) rfl
    have hp : Passes (L2.CX P w) (cxOf (L2.CX P w) P w K mg base ["value"] "is_sequence" (defScope st_is_sequence) T.A_is_sequence cdv Ar outer sh H E) E := passes_call (takes_of rfl rfl rfl rfl) fun _ _ _ _ h => h
    exact (dss_one (ds_ret (de_isi2 (t1 := .list) (t2 := .tuple) rfl T.n_isinstance rfl T.n_list bt_list rfl T.n_tuple bt_tuple (de_bor (pv 0)))))
theorem ok_is_index (T : Txt K mg) (hA : A.K = K) : FnOk P w K mg base (L2.CX P w) 3 T.A_is_index T.D_is_index ["value", "many"] (spD A 2 F_is_index) := by
  have G_is_number := ok_is_number (P := P) (w := w) (base := base) (A := A) T hA
  exact def_ok (k := 2) T.F_is_index sc_is_index rfl fun cdv Ar outer sh H Hb E hr => by
    have hK : K = A.K := hA.symm
    have nd := sc_is_index.nd
    have hu : (Ar.deeper (envOfC "is_index" (defScope st_is_index) sh.heap.objs.size T.A_is_index cdv)).units + 65 < cLine := by have := hr.un; omega
    have hu4 : (Ar.deeper (envOfC "is_index" (defScope st_is_index) sh.heap.objs.size T.A_is_index cdv)).units + 64 < cLine := by omega
    have ho := passes_of (X := cxOf (L2.CX P w) P w K mg base ["value", "many"] "is_index" (defScope st_is_index) T.A_is_index cdv Ar outer sh H E) rfl
    have hp : Passes (L2.CX P w) (cxOf (L2.CX P w) P w K mg base ["value", "many"] "is_index" (defScope st_is_index) T.A_is_index cdv Ar outer sh H E) E := passes_call (takes_of rfl rfl rfl rfl) fun _ _ _ _ h => h
    exact (dss_one (ds_ret (de_and (de_call (Calls.of G_is_number (hr.mono (by decide))) hp rfl T.g_is_number T.F_is_number.kp (b_is_number T) (da_cons (de_var (pv 0)) da_nil)) (de_one (de_cmp od_lt (de_bor (pv 0)) (de_bor (pv 1)) (nomark _))))))
theorem ok_divisor (T : Txt K mg) (hA : A.K = K) : FnOk P w K mg base (L2.CX P w) 1 T.A_divisor T.D_divisor ["one", "other"] (spD A 2 F_divisor) := by
  exact def_ok (k := 0) T.F_divisor sc_divisor rfl fun cdv Ar outer sh H Hb E hr => by
    have hK : K = A.K := hA.symm
    have nd := sc_divisor.nd
    have hu : (Ar.deeper (envOfC "divisor" (defScope st_divisor) sh.heap.objs.size T.A_divisor cdv)).units + 65 < cLine := by have := hr.un; omega
    have hu4 : (Ar.deeper (envOfC "divisor" (defScope st_divisor) sh.heap.objs.size T.A_divisor cdv)).units + 64 < cLine := by omega
    have ho := passes_of (X := cxOf (L2.CX P w) P w K mg base ["one", "other"] "divisor" (defScope st_divisor) T.A_divisor cdv Ar outer sh H E) rfl
    have hp : Passes (L2.CX P w) (cxOf (L2.CX P w) P w K mg base ["one", "other"] "divisor" (defScope st_divisor) T.A_divisor cdv Ar outer sh H E) E := passes_call (takes_of rfl rfl rfl rfl) fun _ _ _ _ h => h
    exact (dss_cons (ds_while (fuel := (fuI 1)) ho (dt_cmp od_gt (de_bor (pv 1)) de_int (nomark _)) (dss_one (ds_par (i := 0) (j := 1) rfl nd rfl rfl (by decide) rfl rfl (de_var (pv 1)) (fun _ => (de_op od_mod (de_t1 cd_int rfl T.n_int bt_int (de_bor (pv 0))) (de_bor (pv 1)))) rfl))) (dss_one (ds_ret (de_mov (pv 0)))))
theorem ok_fault (T : Txt K mg) (hA : A.K = K) : FnOk P w K mg base (L2.CX P w) 4 T.A_fault T.D_fault ["value"] (spD A 1 F_fault) := by
  have G_is_index := ok_is_index (P := P) (w := w) (base := base) (A := A) T hA
  have G_is_sequence := ok_is_sequence (P := P) (w := w) (base := base) (A := A) T hA
  exact def_ok (k := 3) T.F_fault sc_fault rfl fun cdv Ar outer sh H Hb E hr => by
    have hK : K = A.K := hA.symm
    have nd := sc_fault.nd
    have hu : (Ar.deeper (envOfC "fault" (defScope st_fault) sh.heap.objs.size T.A_fault cdv)).units + 65 < cLine := by have := hr.un; omega
    have hu4 : (Ar.deeper (envOfC "fault" (defScope st_fault) sh.heap.objs.size T.A_fault cdv)).units + 64 < cLine := by omega
    have ho := passes_of (X := cxOf (L2.CX P w) P w K mg base ["value", "seen", "at", "place"] "fault" (defScope st_fault) T.A_fault cdv Ar outer sh H E) rfl
    have hp : Passes (L2.CX P w) (cxOf (L2.CX P w) P w K mg base ["value", "seen", "at", "place"] "fault" (defScope st_fault) T.A_fault cdv Ar outer sh H E) E := passes_call (takes_of rfl rfl rfl rfl) fun _ _ _ _ h => h
    exact (dss_cons (ds_if (dt_not (dt_tru hK (de_call (Calls.of G_is_sequence (hr.mono (by decide))) hp rfl T.g_is_sequence T.F_is_sequence.kp (b_is_sequence T) (da_cons (de_var (pv 0)) da_nil)) (fun _ => rfl))) (dss_one (ds_ret de_int)) dss_nil) (dss_cons (ds_set (ps_set (i := 1) nd rfl (Or.inl rfl) (de_op od_mul (de_lst (da_cons de_bl da_nil)) (de_b1 cd_len rfl T.n_len bt_len (de_bor (pv 0)))))) (dss_cons (ds_for ho rfl (di_en rfl T.n_enumerate (da_cons (de_var (pv 0)) da_nil)) (pg_tup rfl (pgs_cons (pg_name (i := 2) nd rfl (Or.inl rfl)) (pgs_cons (pg_name (i := 3) nd rfl (Or.inl rfl)) pgs_nil))) (tgs_tup (tgs_cons tgs_name (tgs_cons tgs_name tgs_nil))) (dss_cons (ds_if (dt_w (dw_or (dt_not (dt_tru hK (de_call (Calls.of G_is_index (hr.mono (by decide))) hp rfl T.g_is_index T.F_is_index.kp (b_is_index T) (da_cons (de_var (pv 3)) (da_cons (de_b1 cd_len rfl T.n_len bt_len (de_bor (pv 0))) da_nil))) (fun _ => rfl))) (dw_or1 (dt_tru hK (de_ix hK (de_bor (pv 1)) (de_bor (pv 3))) (fun _ => rfl))))) (dss_one (ds_ret (de_mov (pv 2)))) dss_nil) (dss_one (ds_putI (ps_asg de_bl (pg_sub (pv 1) (de_bor (pv 3)) set_list)))))) (dss_one (ds_ret de_non)))))
theorem ok_checked_reordering (T : Txt K mg) (hA : A.K = K) : FnOk P w K mg base (L2.CX P w) 5 T.A_checked_reordering T.D_checked_reordering ["value"] (spD A 1 F_checked_reordering) := by
  have G_fault := ok_fault (P := P) (w := w) (base := base) (A := A) T hA
  exact def_ok (k := 4) T.F_checked_reordering sc_checked_reordering rfl fun cdv Ar outer sh H Hb E hr => by
    have hK : K = A.K := hA.symm
    have nd := sc_checked_reordering.nd
    have hu : (Ar.deeper (envOfC "checked_reordering" (defScope st_checked_reordering) sh.heap.objs.size T.A_checked_reordering cdv)).units + 65 < cLine := by have := hr.un; omega
    have hu4 : (Ar.deeper (envOfC "checked_reordering" (defScope st_checked_reordering) sh.heap.objs.size T.A_checked_reordering cdv)).units + 64 < cLine := by omega
    have ho := passes_of (X := cxOf (L2.CX P w) P w K mg base ["value", "at"] "checked_reordering" (defScope st_checked_reordering) T.A_checked_reordering cdv Ar outer sh H E) rfl
    have hp : Passes (L2.CX P w) (cxOf (L2.CX P w) P w K mg base ["value", "at"] "checked_reordering" (defScope st_checked_reordering) T.A_checked_reordering cdv Ar outer sh H E) E := passes_call (takes_of rfl rfl rfl rfl) fun _ _ _ _ h => h
    exact (dss_cons (ds_set (ps_set (i := 1) nd rfl (Or.inl rfl) (de_call (Calls.of G_fault (hr.mono (by decide))) hp rfl T.g_fault T.F_fault.kp (b_fault T) (da_cons (de_var (pv 0)) da_nil)))) (dss_cons (ds_if (dt_cmp od_notN (de_bor (pv 1)) de_non (nomark _)) (dss_one ds_bad) dss_nil) (dss_one (ds_ret (de_t1 cd_tuple rfl T.n_tuple bt_tuple (de_bor (pv 0)))))))
theorem ok_frame (T : Txt K mg) (hA : A.K = K) : FnOk P w K mg base (L2.CX P w) 6 T.A_frame T.D_frame ["reordering"] (spD A 1 F_frame) := by
  have G_checked_reordering := ok_checked_reordering (P := P) (w := w) (base := base) (A := A) T hA
  have G_divisor := ok_divisor (P := P) (w := w) (base := base) (A := A) T hA
  exact def_ok (k := 5) T.F_frame sc_frame rfl fun cdv Ar outer sh H Hb E hr => by
    have hK : K = A.K := hA.symm
    have nd := sc_frame.nd
    have hu : (Ar.deeper (envOfC "frame" (defScope st_frame) sh.heap.objs.size T.A_frame cdv)).units + 65 < cLine := by have := hr.un; omega
    have hu4 : (Ar.deeper (envOfC "frame" (defScope st_frame) sh.heap.objs.size T.A_frame cdv)).units + 64 < cLine := by omega
    have ho := passes_of (X := cxOf (L2.CX P w) P w K mg base ["reordering", "places", "moved", "step", "at", "place"] "frame" (defScope st_frame) T.A_frame cdv Ar outer sh H E) rfl
    have hp : Passes (L2.CX P w) (cxOf (L2.CX P w) P w K mg base ["reordering", "places", "moved", "step", "at", "place"] "frame" (defScope st_frame) T.A_frame cdv Ar outer sh H E) E := passes_call (takes_of rfl rfl rfl rfl) fun _ _ _ _ h => h
    exact (dss_cons (ds_set (ps_set (i := 1) nd rfl (Or.inl rfl) (de_call (Calls.of G_checked_reordering (hr.mono (by decide))) hp rfl T.g_checked_reordering T.F_checked_reordering.kp (b_checked_reordering T) (da_cons (de_var (pv 0)) da_nil)))) (dss_cons (ds_setLc (i := 2) rfl nd rfl rfl rfl (by exact (di_en rfl T.n_enumerate (da_cons (de_var (pv 1)) da_nil))) (blkOk_by (own := [("at", 4), ("place", 5)]) (by kernel_rfl)) (fun _ _ _ _ _ => (pg_tup rfl (pgs_cons (pg_name (i := 4) nd rfl (Or.inl rfl)) (pgs_cons (pg_name (i := 5) nd rfl (Or.inl rfl)) pgs_nil)))) (tgs_tup (tgs_cons tgs_name (tgs_cons tgs_name tgs_nil))) rfl (fun _ _ _ _ _ _ => (dts_one (dt_cmp (od_ne hK hu4) (de_bor (pv 5)) (de_bor (pv 4)) (nomark _)))) (fun _ _ _ _ _ _ => (de_var (pv 4)))) (dss_cons (ds_if (dt_cmp (od_eq hK hu4) (de_b1 cd_len rfl T.n_len bt_len (de_bor (pv 2))) de_int (nomark _)) (dss_one (ds_ret de_non)) dss_nil) (dss_cons (ds_set (ps_set (i := 3) nd rfl (Or.inl rfl) de_int)) (dss_cons (ds_for ho rfl (di_seq (de_var (pv 2))) (pg_name (i := 4) nd rfl (Or.inl rfl)) tgs_name (dss_one (ds_set (ps_set (i := 3) nd rfl (Or.inl rfl) (de_call (Calls.of G_divisor (hr.mono (by decide))) hp rfl T.g_divisor T.F_divisor.kp (b_divisor T) (da_cons (de_b1 cd_abs rfl T.n_abs bt_abs (de_op od_sub (de_ix hK (de_bor (pv 1)) (de_bor (pv 4))) (de_bor (pv 4)))) (da_cons (de_var (pv 3)) da_nil))))))) (dss_one (ds_ret (de_tup (da_cons (de_ix hK (de_bor (pv 2)) de_int) (da_cons (de_op od_sub (de_op od_sub (de_b1 cd_len rfl T.n_len bt_len (de_bor (pv 1))) de_int) (de_ix hK (de_bor (pv 2)) (de_neg de_int))) (da_cons (de_var (pv 3)) da_nil)))))))))))
theorem ok_is_allowed (T : Txt K mg) (hA : A.K = K) : FnOk P w K mg base (L2.CX P w) 6 T.A_is_allowed T.D_is_allowed ["triple", "reordering"] (spD A 2 F_is_allowed) := by
  have G_checked_reordering := ok_checked_reordering (P := P) (w := w) (base := base) (A := A) T hA
  exact def_ok (k := 5) T.F_is_allowed sc_is_allowed rfl fun cdv Ar outer sh H Hb E hr => by
    have hK : K = A.K := hA.symm
    have nd := sc_is_allowed.nd
    have hu : (Ar.deeper (envOfC "is_allowed" (defScope st_is_allowed) sh.heap.objs.size T.A_is_allowed cdv)).units + 65 < cLine := by have := hr.un; omega
    have hu4 : (Ar.deeper (envOfC "is_allowed" (defScope st_is_allowed) sh.heap.objs.size T.A_is_allowed cdv)).units + 64 < cLine := by omega
    have ho := passes_of (X := cxOf (L2.CX P w) P w K mg base ["triple", "reordering", "places", "moved", "first", "last", "step", "at", "place"] "is_allowed" (defScope st_is_allowed) T.A_is_allowed cdv Ar outer sh H E) rfl
    have hp : Passes (L2.CX P w) (cxOf (L2.CX P w) P w K mg base ["triple", "reordering", "places", "moved", "first", "last", "step", "at", "place"] "is_allowed" (defScope st_is_allowed) T.A_is_allowed cdv Ar outer sh H E) E := passes_call (takes_of rfl rfl rfl rfl) fun _ _ _ _ h => h
    exact (dss_cons (ds_set (ps_set (i := 2) nd rfl (Or.inr rfl) (de_call (Calls.of G_checked_reordering (hr.mono (by decide))) hp rfl T.g_checked_reordering T.F_checked_reordering.kp (b_checked_reordering T) (da_cons (de_var (pv 1)) da_nil)))) (dss_cons (ds_setLc (i := 3) rfl nd rfl rfl rfl (by exact (di_en rfl T.n_enumerate (da_cons (de_var (pv 2)) da_nil))) (blkOk_by (own := [("at", 7), ("place", 8)]) (by kernel_rfl)) (fun _ _ _ _ _ => (pg_tup rfl (pgs_cons (pg_name (i := 7) nd rfl (Or.inl rfl)) (pgs_cons (pg_name (i := 8) nd rfl (Or.inl rfl)) pgs_nil)))) (tgs_tup (tgs_cons tgs_name (tgs_cons tgs_name tgs_nil))) rfl (fun _ _ _ _ _ _ => (dts_one (dt_cmp (od_ne hK hu4) (de_bor (pv 8)) (de_bor (pv 7)) (nomark _)))) (fun _ _ _ _ _ _ => (de_var (pv 7)))) (dss_cons (ds_if (dt_w (dw_or (dt_cmp od_isN (de_bor (pv 0)) de_non (nomark _)) (dw_or1 (dt_cmp (od_eq hK hu4) (de_b1 cd_len rfl T.n_len bt_len (de_bor (pv 3))) de_int (nomark _))))) (dss_one (ds_ret (de_cmp (od_eq hK hu4) (de_b1 cd_len rfl T.n_len bt_len (de_bor (pv 3))) de_int (nomark _)))) dss_nil) (dss_cons (ds_asg (de_var (pv 0)) (pg_tup rfl (pgs_cons (pg_name (i := 4) nd rfl (Or.inl rfl)) (pgs_cons (pg_name (i := 5) nd rfl (Or.inl rfl)) (pgs_cons (pg_name (i := 6) nd rfl (Or.inr rfl)) pgs_nil)))) (tgs_tup (tgs_cons tgs_name (tgs_cons tgs_name (tgs_cons tgs_name tgs_nil))))) (dss_cons (ds_if (dt_w (dw_or (dt_cmp od_lt (de_ix hK (de_bor (pv 3)) de_int) (de_bor (pv 4)) (nomark _)) (dw_or1 (dt_cmp od_ge (de_ix hK (de_bor (pv 3)) (de_neg de_int)) (de_op od_sub (de_b1 cd_len rfl T.n_len bt_len (de_bor (pv 2))) (de_bor (pv 5))) (nomark _))))) (dss_one (ds_ret de_bl)) dss_nil) (dss_one (ds_ret (de_b1 (cd_all rfl) rfl T.n_all bt_all (de_lc rfl nd (by exact (di_seq (de_var (pv 3)))) (blkOk_by (own := [("at", 7)]) (by kernel_rfl)) (fun _ _ _ _ _ => (pg_name (i := 7) nd rfl (Or.inl rfl))) tgs_name rfl (fun _ _ _ _ _ _ => dts_nil) (fun _ _ _ _ _ _ => (de_cmp (od_eq hK hu4) (de_op od_mod (de_op od_sub (de_ix hK (de_bor (pv 2)) (de_bor (pv 7))) (de_bor (pv 7))) (de_bor (pv 6))) de_int (nomark _))))))))))))
theorem ok_triple_fault (T : Txt K mg) (hA : A.K = K) : FnOk P w K mg base (L2.CX P w) 3 T.A_triple_fault T.D_triple_fault ["value"] (spD A 1 F_triple_fault) := by
  have G_is_number := ok_is_number (P := P) (w := w) (base := base) (A := A) T hA
  have G_is_sequence := ok_is_sequence (P := P) (w := w) (base := base) (A := A) T hA
  exact def_ok (k := 2) T.F_triple_fault sc_triple_fault rfl fun cdv Ar outer sh H Hb E hr => by
    have hK : K = A.K := hA.symm
    have nd := sc_triple_fault.nd
    have hu : (Ar.deeper (envOfC "triple_fault" (defScope st_triple_fault) sh.heap.objs.size T.A_triple_fault cdv)).units + 65 < cLine := by have := hr.un; omega
    have hu4 : (Ar.deeper (envOfC "triple_fault" (defScope st_triple_fault) sh.heap.objs.size T.A_triple_fault cdv)).units + 64 < cLine := by omega
    have ho := passes_of (X := cxOf (L2.CX P w) P w K mg base ["value", "at", "number"] "triple_fault" (defScope st_triple_fault) T.A_triple_fault cdv Ar outer sh H E) rfl
    have hp : Passes (L2.CX P w) (cxOf (L2.CX P w) P w K mg base ["value", "at", "number"] "triple_fault" (defScope st_triple_fault) T.A_triple_fault cdv Ar outer sh H E) E := passes_call (takes_of rfl rfl rfl rfl) fun _ _ _ _ h => h
    exact (dss_cons (ds_if (dt_w (dw_or (dt_not (dt_tru hK (de_call (Calls.of G_is_sequence (hr.mono (by decide))) hp rfl T.g_is_sequence T.F_is_sequence.kp (b_is_sequence T) (da_cons (de_var (pv 0)) da_nil)) (fun _ => rfl))) (dw_or1 (dt_cmp (od_ne hK hu4) (de_b1 cd_len rfl T.n_len bt_len (de_bor (pv 0))) de_int (nomark _))))) (dss_one (ds_ret de_int)) dss_nil) (dss_cons (ds_for ho rfl (di_en rfl T.n_enumerate (da_cons (de_var (pv 0)) da_nil)) (pg_tup rfl (pgs_cons (pg_name (i := 1) nd rfl (Or.inl rfl)) (pgs_cons (pg_name (i := 2) nd rfl (Or.inl rfl)) pgs_nil))) (tgs_tup (tgs_cons tgs_name (tgs_cons tgs_name tgs_nil))) (dss_one (ds_if (dt_w (dw_or (dt_not (dt_tru hK (de_call (Calls.of G_is_number (hr.mono (by decide))) hp rfl T.g_is_number T.F_is_number.kp (b_is_number T) (da_cons (de_var (pv 2)) da_nil)) (fun _ => rfl))) (dw_or1 (dt_w (dw_and (dt_cmp (od_eq hK hu4) (de_bor (pv 1)) de_int (nomark _)) (dw_and1 (dt_cmp (od_eq hK hu4) (de_bor (pv 2)) de_int (nomark _)))))))) (dss_one (ds_ret (de_mov (pv 1)))) dss_nil))) (dss_one (ds_ret de_non))))
theorem ok_checked_triple (T : Txt K mg) (hA : A.K = K) : FnOk P w K mg base (L2.CX P w) 4 T.A_checked_triple T.D_checked_triple ["value"] (spD A 1 F_checked_triple) := by
  have G_triple_fault := ok_triple_fault (P := P) (w := w) (base := base) (A := A) T hA
  exact def_ok (k := 3) T.F_checked_triple sc_checked_triple rfl fun cdv Ar outer sh H Hb E hr => by
    have hK : K = A.K := hA.symm
    have nd := sc_checked_triple.nd
    have hu : (Ar.deeper (envOfC "checked_triple" (defScope st_checked_triple) sh.heap.objs.size T.A_checked_triple cdv)).units + 65 < cLine := by have := hr.un; omega
    have hu4 : (Ar.deeper (envOfC "checked_triple" (defScope st_checked_triple) sh.heap.objs.size T.A_checked_triple cdv)).units + 64 < cLine := by omega
    have ho := passes_of (X := cxOf (L2.CX P w) P w K mg base ["value", "at"] "checked_triple" (defScope st_checked_triple) T.A_checked_triple cdv Ar outer sh H E) rfl
    have hp : Passes (L2.CX P w) (cxOf (L2.CX P w) P w K mg base ["value", "at"] "checked_triple" (defScope st_checked_triple) T.A_checked_triple cdv Ar outer sh H E) E := passes_call (takes_of rfl rfl rfl rfl) fun _ _ _ _ h => h
    exact (dss_cons (ds_set (ps_set (i := 1) nd rfl (Or.inl rfl) (de_call (Calls.of G_triple_fault (hr.mono (by decide))) hp rfl T.g_triple_fault T.F_triple_fault.kp (b_triple_fault T) (da_cons (de_var (pv 0)) da_nil)))) (dss_cons (ds_if (dt_cmp od_notN (de_bor (pv 1)) de_non (nomark _)) (dss_one ds_bad) dss_nil) (dss_one (ds_ret (de_t1 cd_tuple rfl T.n_tuple bt_tuple (de_bor (pv 0)))))))
theorem ok_is_finding (T : Txt K mg) (hA : A.K = K) : FnOk P w K mg base (L2.CX P w) 5 T.A_is_finding T.D_is_finding ["value"] (spD A 1 F_is_finding) := by
  have G_fault := ok_fault (P := P) (w := w) (base := base) (A := A) T hA
  have G_is_sequence := ok_is_sequence (P := P) (w := w) (base := base) (A := A) T hA
  exact def_ok (k := 4) T.F_is_finding sc_is_finding rfl fun cdv Ar outer sh H Hb E hr => by
    have hK : K = A.K := hA.symm
    have nd := sc_is_finding.nd
    have hu : (Ar.deeper (envOfC "is_finding" (defScope st_is_finding) sh.heap.objs.size T.A_is_finding cdv)).units + 65 < cLine := by have := hr.un; omega
    have hu4 : (Ar.deeper (envOfC "is_finding" (defScope st_is_finding) sh.heap.objs.size T.A_is_finding cdv)).units + 64 < cLine := by omega
    have ho := passes_of (X := cxOf (L2.CX P w) P w K mg base ["value"] "is_finding" (defScope st_is_finding) T.A_is_finding cdv Ar outer sh H E) rfl
    have hp : Passes (L2.CX P w) (cxOf (L2.CX P w) P w K mg base ["value"] "is_finding" (defScope st_is_finding) T.A_is_finding cdv Ar outer sh H E) E := passes_call (takes_of rfl rfl rfl rfl) fun _ _ _ _ h => h
    exact (dss_cons (ds_if (dt_w (dw_or (dt_not (dt_tru hK (de_call (Calls.of G_is_sequence (hr.mono (by decide))) hp rfl T.g_is_sequence T.F_is_sequence.kp (b_is_sequence T) (da_cons (de_var (pv 0)) da_nil)) (fun _ => rfl))) (dw_or (dt_cmp (od_ne hK hu4) (de_b1 cd_len rfl T.n_len bt_len (de_bor (pv 0))) de_int (nomark _)) (dw_or1 (dt_not (dt_tru hK (de_call (Calls.of G_is_sequence (hr.mono (by decide))) hp rfl T.g_is_sequence T.F_is_sequence.kp (b_is_sequence T) (da_cons (de_ix hK (de_bor (pv 0)) de_int) da_nil)) (fun _ => rfl))))))) (dss_one (ds_ret de_bl)) dss_nil) (dss_one (ds_ret (de_and (de_isi1 (t := .bool) (u := .none) rfl T.n_isinstance rfl T.n_bool bt_bool (de_ix hK (de_bor (pv 0)) de_int)) (de_one (de_cmp od_isN (de_call (Calls.of G_fault (hr.mono (by decide))) hp rfl T.g_fault T.F_fault.kp (b_fault T) (da_cons (de_ix hK (de_bor (pv 0)) de_int) da_nil)) de_non (nomark _)))))))
theorem ok_checked_findings (T : Txt K mg) (hA : A.K = K) : FnOk P w K mg base (L2.CX P w) 6 T.A_checked_findings T.D_checked_findings ["value"] (spD A 1 F_checked_findings) := by
  have G_checked_reordering := ok_checked_reordering (P := P) (w := w) (base := base) (A := A) T hA
  have G_is_finding := ok_is_finding (P := P) (w := w) (base := base) (A := A) T hA
  have G_is_sequence := ok_is_sequence (P := P) (w := w) (base := base) (A := A) T hA
  exact def_ok (k := 5) T.F_checked_findings sc_checked_findings rfl fun cdv Ar outer sh H Hb E hr => by
    have hK : K = A.K := hA.symm
    have nd := sc_checked_findings.nd
    have hu : (Ar.deeper (envOfC "checked_findings" (defScope st_checked_findings) sh.heap.objs.size T.A_checked_findings cdv)).units + 65 < cLine := by have := hr.un; omega
    have hu4 : (Ar.deeper (envOfC "checked_findings" (defScope st_checked_findings) sh.heap.objs.size T.A_checked_findings cdv)).units + 64 < cLine := by omega
    have ho := passes_of (X := cxOf (L2.CX P w) P w K mg base ["value", "at", "entry"] "checked_findings" (defScope st_checked_findings) T.A_checked_findings cdv Ar outer sh H E) rfl
    have hp : Passes (L2.CX P w) (cxOf (L2.CX P w) P w K mg base ["value", "at", "entry"] "checked_findings" (defScope st_checked_findings) T.A_checked_findings cdv Ar outer sh H E) E := passes_call (takes_of rfl rfl rfl rfl) fun _ _ _ _ h => h
    exact (dss_cons (ds_if (dt_not (dt_tru hK (de_call (Calls.of G_is_sequence (hr.mono (by decide))) hp rfl T.g_is_sequence T.F_is_sequence.kp (b_is_sequence T) (da_cons (de_var (pv 0)) da_nil)) (fun _ => rfl))) (dss_one ds_bad) dss_nil) (dss_cons (ds_for ho rfl (di_en rfl T.n_enumerate (da_cons (de_var (pv 0)) da_nil)) (pg_tup rfl (pgs_cons (pg_name (i := 1) nd rfl (Or.inl rfl)) (pgs_cons (pg_name (i := 2) nd rfl (Or.inl rfl)) pgs_nil))) (tgs_tup (tgs_cons tgs_name (tgs_cons tgs_name tgs_nil))) (dss_one (ds_if (dt_not (dt_tru hK (de_call (Calls.of G_is_finding (hr.mono (by decide))) hp rfl T.g_is_finding T.F_is_finding.kp (b_is_finding T) (da_cons (de_var (pv 2)) da_nil)) (fun _ => rfl))) (dss_one ds_bad) dss_nil))) (dss_one (ds_ret (de_t1 cd_tuple rfl T.n_tuple bt_tuple (de_lc rfl nd (by exact (di_seq (de_var (pv 0)))) (blkOk_by (own := [("entry", 2)]) (by kernel_rfl)) (fun _ _ _ _ _ => (pg_name (i := 2) nd rfl (Or.inl rfl))) tgs_name rfl (fun _ _ _ _ _ _ => dts_nil) (fun _ _ _ _ _ _ => (de_tup (da_cons (de_call (Calls.of G_checked_reordering (hr.mono (by decide))) passE rfl T.g_checked_reordering T.F_checked_reordering.kp (b_checked_reordering T) (da_cons (de_ix hK (de_bor (pv 2)) de_int) da_nil)) (da_cons (de_ix hK (de_bor (pv 2)) de_int) da_nil))))))))))
theorem ok_agrees_with (T : Txt K mg) (hA : A.K = K) : FnOk P w K mg base (L2.CX P w) 7 T.A_agrees_with T.D_agrees_with ["numbers", "findings"] (spD A 2 F_agrees_with) := by
  have G_is_allowed := ok_is_allowed (P := P) (w := w) (base := base) (A := A) T hA
  exact def_ok (k := 6) T.F_agrees_with sc_agrees_with rfl fun cdv Ar outer sh H Hb E hr => by
    have hK : K = A.K := hA.symm
    have nd := sc_agrees_with.nd
    have hu : (Ar.deeper (envOfC "agrees_with" (defScope st_agrees_with) sh.heap.objs.size T.A_agrees_with cdv)).units + 65 < cLine := by have := hr.un; omega
    have hu4 : (Ar.deeper (envOfC "agrees_with" (defScope st_agrees_with) sh.heap.objs.size T.A_agrees_with cdv)).units + 64 < cLine := by omega
    have ho := passes_of (X := cxOf (L2.CX P w) P w K mg base ["numbers", "findings", "reordering", "harmless"] "agrees_with" (defScope st_agrees_with) T.A_agrees_with cdv Ar outer sh H E) rfl
    have hp : Passes (L2.CX P w) (cxOf (L2.CX P w) P w K mg base ["numbers", "findings", "reordering", "harmless"] "agrees_with" (defScope st_agrees_with) T.A_agrees_with cdv Ar outer sh H E) E := passes_call (takes_of rfl rfl rfl rfl) fun _ _ _ _ h => h
    exact (dss_one (ds_ret (de_b1 (cd_all rfl) rfl T.n_all bt_all (de_lc rfl nd (by exact (di_seq (de_var (pv 1)))) (blkOk_by (own := [("reordering", 2), ("harmless", 3)]) (by kernel_rfl)) (fun _ _ _ _ _ => (pg_tup rfl (pgs_cons (pg_name (i := 2) nd rfl (Or.inl rfl)) (pgs_cons (pg_name (i := 3) nd rfl (Or.inl rfl)) pgs_nil)))) (tgs_tup (tgs_cons tgs_name (tgs_cons tgs_name tgs_nil))) rfl (fun _ _ _ _ _ _ => dts_nil) (fun _ _ _ _ _ _ => (de_cmp (od_eq hK hu4) (de_call (Calls.of G_is_allowed (hr.mono (by decide))) passE rfl T.g_is_allowed T.F_is_allowed.kp (b_is_allowed T) (da_cons (de_var (pv 0)) (da_cons (de_var (pv 2)) da_nil))) (de_bor (pv 3)) (nomark _)))))))
theorem ok_agrees (T : Txt K mg) (hA : A.K = K) : FnOk P w K mg base (L2.CX P w) 8 T.A_agrees T.D_agrees ["triple", "told"] (spD A 2 F_agrees) := by
  have G_agrees_with := ok_agrees_with (P := P) (w := w) (base := base) (A := A) T hA
  have G_checked_findings := ok_checked_findings (P := P) (w := w) (base := base) (A := A) T hA
  have G_checked_triple := ok_checked_triple (P := P) (w := w) (base := base) (A := A) T hA
  exact def_ok (k := 7) T.F_agrees sc_agrees rfl fun cdv Ar outer sh H Hb E hr => by
    have hK : K = A.K := hA.symm
    have nd := sc_agrees.nd
    have hu : (Ar.deeper (envOfC "agrees" (defScope st_agrees) sh.heap.objs.size T.A_agrees cdv)).units + 65 < cLine := by have := hr.un; omega
    have hu4 : (Ar.deeper (envOfC "agrees" (defScope st_agrees) sh.heap.objs.size T.A_agrees cdv)).units + 64 < cLine := by omega
    have ho := passes_of (X := cxOf (L2.CX P w) P w K mg base ["triple", "told", "numbers"] "agrees" (defScope st_agrees) T.A_agrees cdv Ar outer sh H E) rfl
    have hp : Passes (L2.CX P w) (cxOf (L2.CX P w) P w K mg base ["triple", "told", "numbers"] "agrees" (defScope st_agrees) T.A_agrees cdv Ar outer sh H E) E := passes_call (takes_of rfl rfl rfl rfl) fun _ _ _ _ h => h
    exact (dss_cons (ds_set (ps_set (i := 2) nd rfl (Or.inl rfl) (de_if (dt_cmp od_isN (de_bor (pv 0)) de_non (nomark _)) de_non (de_call (Calls.of G_checked_triple (hr.mono (by decide))) hp rfl T.g_checked_triple T.F_checked_triple.kp (b_checked_triple T) (da_cons (de_var (pv 0)) da_nil))))) (dss_one (ds_ret (de_call (Calls.of G_agrees_with (hr.mono (by decide))) hp rfl T.g_agrees_with T.F_agrees_with.kp (b_agrees_with T) (da_cons (de_var (pv 2)) (da_cons (de_call (Calls.of G_checked_findings (hr.mono (by decide))) hp rfl T.g_checked_findings T.F_checked_findings.kp (b_checked_findings T) (da_cons (de_var (pv 1)) da_nil)) da_nil))))))
theorem ok_widest_of (T : Txt K mg) (hA : A.K = K) : FnOk P w K mg base (L2.CX P w) 7 T.A_widest_of T.D_widest_of ["findings"] (spD A 1 F_widest_of) := by
  have G_divisor := ok_divisor (P := P) (w := w) (base := base) (A := A) T hA
  have G_frame := ok_frame (P := P) (w := w) (base := base) (A := A) T hA
  exact def_ok (k := 6) T.F_widest_of sc_widest_of rfl fun cdv Ar outer sh H Hb E hr => by
    have hK : K = A.K := hA.symm
    have nd := sc_widest_of.nd
    have hu : (Ar.deeper (envOfC "widest_of" (defScope st_widest_of) sh.heap.objs.size T.A_widest_of cdv)).units + 65 < cLine := by have := hr.un; omega
    have hu4 : (Ar.deeper (envOfC "widest_of" (defScope st_widest_of) sh.heap.objs.size T.A_widest_of cdv)).units + 64 < cLine := by omega
    have ho := passes_of (X := cxOf (L2.CX P w) P w K mg base ["findings", "found", "reordering", "harmless", "told"] "widest_of" (defScope st_widest_of) T.A_widest_of cdv Ar outer sh H E) rfl
    have hp : Passes (L2.CX P w) (cxOf (L2.CX P w) P w K mg base ["findings", "found", "reordering", "harmless", "told"] "widest_of" (defScope st_widest_of) T.A_widest_of cdv Ar outer sh H E) E := passes_call (takes_of rfl rfl rfl rfl) fun _ _ _ _ h => h
    exact (dss_cons (ds_set (ps_set (i := 1) nd rfl (Or.inl rfl) de_non)) (dss_cons (ds_for ho rfl (di_seq (de_var (pv 0))) (pg_tup rfl (pgs_cons (pg_name (i := 2) nd rfl (Or.inl rfl)) (pgs_cons (pg_name (i := 3) nd rfl (Or.inl rfl)) pgs_nil))) (tgs_tup (tgs_cons tgs_name (tgs_cons tgs_name tgs_nil))) (dss_cons (ds_set (ps_set (i := 4) nd rfl (Or.inl rfl) (de_call (Calls.of G_frame (hr.mono (by decide))) hp rfl T.g_frame T.F_frame.kp (b_frame T) (da_cons (de_var (pv 2)) da_nil)))) (dss_one (ds_if (dt_w (dw_and (dt_tru hK (de_bor (pv 3)) (fun _ => rfl)) (dw_and1 (dt_cmp od_notN (de_bor (pv 4)) de_non (nomark _))))) (dss_cons (ds_if (dt_cmp od_isN (de_bor (pv 1)) de_non (nomark _)) (dss_one (ds_set (ps_set (i := 1) nd rfl (Or.inl rfl) (de_var (pv 4))))) dss_nil) (dss_one (ds_set (ps_set (i := 1) nd rfl (Or.inl rfl) (de_tup (da_cons (de_b2 (cd_min2 rfl) rfl T.n_min bt_min (de_ix hK (de_bor (pv 1)) de_int) (de_ix hK (de_bor (pv 4)) de_int)) (da_cons (de_b2 (cd_min2 rfl) rfl T.n_min bt_min (de_ix hK (de_bor (pv 1)) de_int) (de_ix hK (de_bor (pv 4)) de_int)) (da_cons (de_call (Calls.of G_divisor (hr.mono (by decide))) hp rfl T.g_divisor T.F_divisor.kp (b_divisor T) (da_cons (de_ix hK (de_bor (pv 1)) de_int) (da_cons (de_ix hK (de_bor (pv 4)) de_int) da_nil))) da_nil)))))))) dss_nil)))) (dss_one (ds_ret (de_mov (pv 1))))))
theorem ok_widest (T : Txt K mg) (hA : A.K = K) : FnOk P w K mg base (L2.CX P w) 8 T.A_widest T.D_widest ["told"] (spD A 1 F_widest) := by
  have G_checked_findings := ok_checked_findings (P := P) (w := w) (base := base) (A := A) T hA
  have G_widest_of := ok_widest_of (P := P) (w := w) (base := base) (A := A) T hA
  exact def_ok (k := 7) T.F_widest sc_widest rfl fun cdv Ar outer sh H Hb E hr => by
    have hK : K = A.K := hA.symm
    have nd := sc_widest.nd
    have hu : (Ar.deeper (envOfC "widest" (defScope st_widest) sh.heap.objs.size T.A_widest cdv)).units + 65 < cLine := by have := hr.un; omega
    have hu4 : (Ar.deeper (envOfC "widest" (defScope st_widest) sh.heap.objs.size T.A_widest cdv)).units + 64 < cLine := by omega
    have ho := passes_of (X := cxOf (L2.CX P w) P w K mg base ["told"] "widest" (defScope st_widest) T.A_widest cdv Ar outer sh H E) rfl
    have hp : Passes (L2.CX P w) (cxOf (L2.CX P w) P w K mg base ["told"] "widest" (defScope st_widest) T.A_widest cdv Ar outer sh H E) E := passes_call (takes_of rfl rfl rfl rfl) fun _ _ _ _ h => h
    exact (dss_one (ds_ret (de_call (Calls.of G_widest_of (hr.mono (by decide))) hp rfl T.g_widest_of T.F_widest_of.kp (b_widest_of T) (da_cons (de_call (Calls.of G_checked_findings (hr.mono (by decide))) hp rfl T.g_checked_findings T.F_checked_findings.kp (b_checked_findings T) (da_cons (de_var (pv 0)) da_nil)) da_nil))))
theorem ok_is_possible (T : Txt K mg) (hA : A.K = K) : FnOk P w K mg base (L2.CX P w) 8 T.A_is_possible T.D_is_possible ["findings"] (spD A 1 F_is_possible) := by
  have G_agrees_with := ok_agrees_with (P := P) (w := w) (base := base) (A := A) T hA
  have G_widest_of := ok_widest_of (P := P) (w := w) (base := base) (A := A) T hA
  exact def_ok (k := 7) T.F_is_possible sc_is_possible rfl fun cdv Ar outer sh H Hb E hr => by
    have hK : K = A.K := hA.symm
    have nd := sc_is_possible.nd
    have hu : (Ar.deeper (envOfC "is_possible" (defScope st_is_possible) sh.heap.objs.size T.A_is_possible cdv)).units + 65 < cLine := by have := hr.un; omega
    have hu4 : (Ar.deeper (envOfC "is_possible" (defScope st_is_possible) sh.heap.objs.size T.A_is_possible cdv)).units + 64 < cLine := by omega
    have ho := passes_of (X := cxOf (L2.CX P w) P w K mg base ["findings"] "is_possible" (defScope st_is_possible) T.A_is_possible cdv Ar outer sh H E) rfl
    have hp : Passes (L2.CX P w) (cxOf (L2.CX P w) P w K mg base ["findings"] "is_possible" (defScope st_is_possible) T.A_is_possible cdv Ar outer sh H E) E := passes_call (takes_of rfl rfl rfl rfl) fun _ _ _ _ h => h
    exact (dss_one (ds_ret (de_call (Calls.of G_agrees_with (hr.mono (by decide))) hp rfl T.g_agrees_with T.F_agrees_with.kp (b_agrees_with T) (da_cons (de_call (Calls.of G_widest_of (hr.mono (by decide))) hp rfl T.g_widest_of T.F_widest_of.kp (b_widest_of T) (da_cons (de_var (pv 0)) da_nil)) (da_cons (de_var (pv 0)) da_nil)))))
theorem ok_clash (T : Txt K mg) (hA : A.K = K) : FnOk P w K mg base (L2.CX P w) 9 T.A_clash T.D_clash ["told"] (spD A 1 F_clash) := by
  have G_checked_findings := ok_checked_findings (P := P) (w := w) (base := base) (A := A) T hA
  have G_is_possible := ok_is_possible (P := P) (w := w) (base := base) (A := A) T hA
  exact def_ok (k := 8) T.F_clash sc_clash rfl fun cdv Ar outer sh H Hb E hr => by
    have hK : K = A.K := hA.symm
    have nd := sc_clash.nd
    have hu : (Ar.deeper (envOfC "clash" (defScope st_clash) sh.heap.objs.size T.A_clash cdv)).units + 65 < cLine := by have := hr.un; omega
    have hu4 : (Ar.deeper (envOfC "clash" (defScope st_clash) sh.heap.objs.size T.A_clash cdv)).units + 64 < cLine := by omega
    have ho := passes_of (X := cxOf (L2.CX P w) P w K mg base ["told", "findings", "kept", "at", "fewer", "one"] "clash" (defScope st_clash) T.A_clash cdv Ar outer sh H E) rfl
    have hp : Passes (L2.CX P w) (cxOf (L2.CX P w) P w K mg base ["told", "findings", "kept", "at", "fewer", "one"] "clash" (defScope st_clash) T.A_clash cdv Ar outer sh H E) E := passes_call (takes_of rfl rfl rfl rfl) fun _ _ _ _ h => h
    exact (dss_cons (ds_set (ps_set (i := 1) nd rfl (Or.inr rfl) (de_call (Calls.of G_checked_findings (hr.mono (by decide))) hp rfl T.g_checked_findings T.F_checked_findings.kp (b_checked_findings T) (da_cons (de_var (pv 0)) da_nil)))) (dss_cons (ds_if (dt_tru hK (de_call (Calls.of G_is_possible (hr.mono (by decide))) hp rfl T.g_is_possible T.F_is_possible.kp (b_is_possible T) (da_cons (de_var (pv 1)) da_nil)) (fun _ => rfl)) (dss_one (ds_ret de_non)) dss_nil) (dss_cons (ds_set (ps_set (i := 2) nd rfl (Or.inl rfl) (de_listRg rfl rfl T.n_list rfl T.n_range (de_b1 cd_len rfl T.n_len bt_len (de_bor (pv 1)))))) (dss_cons (ds_for ho rfl (di_range1 rfl T.n_range (de_b1 cd_len rfl T.n_len bt_len (de_bor (pv 1)))) (pg_name (i := 3) nd rfl (Or.inr rfl)) tgs_name (dss_cons (ds_setLc (i := 4) rfl nd rfl rfl rfl (by exact (di_seq (de_var (pv 2)))) (blkOk_by (own := [("one", 5)]) (by kernel_rfl)) (fun _ _ _ _ _ => (pg_name (i := 5) nd rfl (Or.inl rfl))) tgs_name rfl (fun _ _ _ _ _ _ => (dts_one (dt_cmp (od_ne hK hu4) (de_bor (pv 5)) (de_bor (pv 3)) (nomark _)))) (fun _ _ _ _ _ _ => (de_var (pv 5)))) (dss_one (ds_if (dt_not (dt_tru hK (de_call (Calls.of G_is_possible (hr.mono (by decide))) hp rfl T.g_is_possible T.F_is_possible.kp (b_is_possible T) (da_cons (de_lc rfl nd (by exact (di_seq (de_var (pv 4)))) (blkOk_by (own := [("one", 5)]) (by kernel_rfl)) (fun _ _ _ _ _ => (pg_name (i := 5) nd rfl (Or.inl rfl))) tgs_name rfl (fun _ _ _ _ _ _ => dts_nil) (fun _ _ _ _ _ _ => (de_ix hK (de_bor (pv 1)) (de_bor (pv 5))))) da_nil)) (fun _ => rfl))) (dss_one (ds_set (ps_set (i := 2) nd rfl (Or.inl rfl) (de_var (pv 4))))) dss_nil)))) (dss_one (ds_ret (de_t1 cd_tuple rfl T.n_tuple bt_tuple (de_bor (pv 2)))))))))
theorem ok_is_clash (T : Txt K mg) (hA : A.K = K) : FnOk P w K mg base (L2.CX P w) 9 T.A_is_clash T.D_is_clash ["told", "value"] (spD A 2 F_is_clash) := by
  have G_checked_findings := ok_checked_findings (P := P) (w := w) (base := base) (A := A) T hA
  have G_is_index := ok_is_index (P := P) (w := w) (base := base) (A := A) T hA
  have G_is_possible := ok_is_possible (P := P) (w := w) (base := base) (A := A) T hA
  exact def_ok (k := 8) T.F_is_clash sc_is_clash rfl fun cdv Ar outer sh H Hb E hr => by
    have hK : K = A.K := hA.symm
    have nd := sc_is_clash.nd
    have hu : (Ar.deeper (envOfC "is_clash" (defScope st_is_clash) sh.heap.objs.size T.A_is_clash cdv)).units + 65 < cLine := by have := hr.un; omega
    have hu4 : (Ar.deeper (envOfC "is_clash" (defScope st_is_clash) sh.heap.objs.size T.A_is_clash cdv)).units + 64 < cLine := by omega
    have ho := passes_of (X := cxOf (L2.CX P w) P w K mg base ["told", "value", "findings", "one", "at"] "is_clash" (defScope st_is_clash) T.A_is_clash cdv Ar outer sh H E) rfl
    have hp : Passes (L2.CX P w) (cxOf (L2.CX P w) P w K mg base ["told", "value", "findings", "one", "at"] "is_clash" (defScope st_is_clash) T.A_is_clash cdv Ar outer sh H E) E := passes_call (takes_of rfl rfl rfl rfl) fun _ _ _ _ h => h
    exact (dss_cons (ds_set (ps_set (i := 2) nd rfl (Or.inr rfl) (de_call (Calls.of G_checked_findings (hr.mono (by decide))) hp rfl T.g_checked_findings T.F_checked_findings.kp (b_checked_findings T) (da_cons (de_var (pv 0)) da_nil)))) (dss_cons (ds_if (dt_w (dw_or (dt_not (dt_tru hK (de_isi1 (t := .tuple) (u := .none) rfl T.n_isinstance rfl T.n_tuple bt_tuple (de_bor (pv 1))) (fun _ => rfl))) (dw_or1 (dt_not (dt_tru hK (de_b1 (cd_all rfl) rfl T.n_all bt_all (de_lc rfl nd (by exact (di_seq (de_var (pv 1)))) (blkOk_by (own := [("one", 3)]) (by kernel_rfl)) (fun _ _ _ _ _ => (pg_name (i := 3) nd rfl (Or.inl rfl))) tgs_name rfl (fun _ _ _ _ _ _ => dts_nil) (fun _ _ _ _ _ _ => (de_call (Calls.of G_is_index (hr.mono (by decide))) passE rfl T.g_is_index T.F_is_index.kp (b_is_index T) (da_cons (de_var (pv 3)) (da_cons (de_b1 cd_len rfl T.n_len bt_len (de_bor (pv 2))) da_nil)))))) (fun _ => rfl)))))) (dss_one (ds_ret de_bl)) dss_nil) (dss_cons (ds_if (dt_tru hK (de_b1 (cd_any rfl) rfl T.n_any bt_any (de_lc rfl nd (by exact (di_range1 rfl T.n_range (de_op od_sub (de_b1 cd_len rfl T.n_len bt_len (de_bor (pv 1))) de_int))) (blkOk_by (own := [("at", 4)]) (by kernel_rfl)) (fun _ _ _ _ _ => (pg_name (i := 4) nd rfl (Or.inl rfl))) tgs_name rfl (fun _ _ _ _ _ _ => dts_nil) (fun _ _ _ _ _ _ => (de_cmp od_ge (de_ix hK (de_bor (pv 1)) (de_bor (pv 4))) (de_ix hK (de_bor (pv 1)) (de_op od_add (de_bor (pv 4)) de_int)) (nomark _))))) (fun _ => rfl)) (dss_one (ds_ret de_bl)) dss_nil) (dss_cons (ds_if (dt_tru hK (de_call (Calls.of G_is_possible (hr.mono (by decide))) hp rfl T.g_is_possible T.F_is_possible.kp (b_is_possible T) (da_cons (de_lc rfl nd (by exact (di_seq (de_var (pv 1)))) (blkOk_by (own := [("one", 3)]) (by kernel_rfl)) (fun _ _ _ _ _ => (pg_name (i := 3) nd rfl (Or.inl rfl))) tgs_name rfl (fun _ _ _ _ _ _ => dts_nil) (fun _ _ _ _ _ _ => (de_ix hK (de_bor (pv 2)) (de_bor (pv 3))))) da_nil)) (fun _ => rfl)) (dss_one (ds_ret de_bl)) dss_nil) (dss_one (ds_ret (de_b1 (cd_all rfl) rfl T.n_all bt_all (de_lc rfl nd (by exact (di_seq (de_var (pv 1)))) (blkOk_by (own := [("at", 4)]) (by kernel_rfl)) (fun _ _ _ _ _ => (pg_name (i := 4) nd rfl (Or.inr rfl))) tgs_name rfl (fun _ _ _ _ _ _ => dts_nil) (fun _ _ _ _ _ _ => (de_call (Calls.of G_is_possible (hr.mono (by decide))) passE rfl T.g_is_possible T.F_is_possible.kp (b_is_possible T) (da_cons (de_lc rfl nd (by exact (di_seq (de_var (pv 1)))) (blkOk_by (own := [("one", 3)]) (by kernel_rfl)) (fun _ _ _ _ _ => (pg_name (i := 3) nd rfl (Or.inl rfl))) tgs_name rfl (fun _ _ _ _ _ _ => (dts_one (dt_cmp (od_ne hK hu4) (de_bor (pv 3)) (de_bor (pv 4)) (nomark _)))) (fun _ _ _ _ _ _ => (de_ix hK (de_bor (pv 2)) (de_bor (pv 3))))) da_nil)))))))))))
theorem ok__law_draw (T : Txt K mg) : FnOk P w K mg base (L2.CX P w) 1 T.A__law_draw T.D__law_draw ["script", "salt"] (spDraw K) := by
  refine T.F__law_draw.okX (k := 0) sc__law_draw (fun vs H Q E h => ?_) fun cdv Ar outer sh H vs Q E hr h => ⟨t_draw K ⟨K, none, []⟩ ⟨fun _ => none, H, fun _ => False⟩ E, ?_, pure_draw h⟩
  · obtain ⟨a, ns, salt, rfl, _⟩ := h
    rfl
  · have hK : K = (⟨K, none, []⟩ : Am).K := rfl
    have nd := sc__law_draw.nd
    have hu : (Ar.deeper (envOfC "_law_draw" (defScope st__law_draw) sh.heap.objs.size T.A__law_draw cdv)).units + 65 < cLine := by have := hr.un; omega
    have hu4 : (Ar.deeper (envOfC "_law_draw" (defScope st__law_draw) sh.heap.objs.size T.A__law_draw cdv)).units + 64 < cLine := by omega
    have ho := passes_of (X := cxOf (L2.CX P w) P w K mg base ["script", "salt", "cells", "blend", "cell"] "_law_draw" (defScope st__law_draw) T.A__law_draw cdv Ar outer sh H E) rfl
    have hp : Passes (L2.CX P w) (cxOf (L2.CX P w) P w K mg base ["script", "salt", "cells", "blend", "cell"] "_law_draw" (defScope st__law_draw) T.A__law_draw cdv Ar outer sh H E) E := passes_call (takes_of rfl rfl rfl rfl) fun _ _ _ _ h => h
    exact pss_cons (ps_draw1 (ps_setLc (i := 2) rfl nd rfl rfl rfl (pi_scr (by exact (pi_list (pe_slice sl_list (pv 0) po_none (po_some pe_int))))) (blkOk_by (own := [("cell", 4)]) (by kernel_rfl)) (fun _ _ _ _ _ => (pg_name (i := 4) nd rfl (Or.inl rfl))) (fun _ _ _ _ _ => ptsx fun _ => dts_nil) (fun _ _ _ _ _ => pex fun _ => de_b1 cd_abs rfl T.n_abs bt_abs (de_t1 cd_int rfl T.n_int bt_int (de_bor (pv 4))))))
      (pss_cons (ds_set (ps_set (i := 3) nd rfl (Or.inl rfl) (de_op od_add de_int (de_op od_mul de_int (de_bor (pv 1))))))
      (pss_cons (ds_for ho rfl (di_seq (de_var (pv 2))) (pg_name (i := 4) nd rfl (Or.inl rfl)) tgs_name (dss_one (ds_set (ps_set (i := 3) nd rfl (Or.inl rfl) (de_op od_mod (de_t1 cd_int rfl T.n_int bt_int (de_op od_add (de_op od_add (de_op od_mul (de_bor (pv 3)) de_int) (de_op od_mod (de_bor (pv 4)) de_int)) de_int)) de_int)))))
      (pss_one (ps_ret (pe_lst (pa_cons (pe_revL (de_lc rfl nd (by exact (di_seq (de_var (pv 2)))) (blkOk_by (own := [("cell", 4)]) (by kernel_rfl)) (fun _ _ _ _ _ => (pg_name (i := 4) nd rfl (Or.inl rfl))) tgs_name rfl (fun _ _ _ _ _ _ => dts_one (dt_cmp od_ge (de_bor (pv 4)) (de_op od_pow de_int de_int) (nomark _))) (fun _ _ _ _ _ _ => de_var (pv 4)))) (pa_cons (pv 3) pa_nil)))))))
theorem ok__law_any (T : Txt K mg) (hA : A.K = K) : FnOk P w K mg base (L2.CX P w) 1 T.A__law_any T.D__law_any ["deal", "bound"] (spD A 2 F__law_any) := by
  refine FnOk.weak (def_ok (A := A) (s := f__law_any) (k := 0) T.F__law_any sc__law_any rfl fun cdv Ar outer sh H Hb E hr => ?_) (spD_le any_le)
  · have hK : K = A.K := hA.symm
    have nd := sc__law_any.nd
    have hu : (Ar.deeper (envOfC "_law_any" (defScope st__law_any) sh.heap.objs.size T.A__law_any cdv)).units + 65 < cLine := by have := hr.un; omega
    have hu4 : (Ar.deeper (envOfC "_law_any" (defScope st__law_any) sh.heap.objs.size T.A__law_any cdv)).units + 64 < cLine := by omega
    have ho := passes_of (X := cxOf (L2.CX P w) P w K mg base ["deal", "bound", "rest"] "_law_any" (defScope st__law_any) T.A__law_any cdv Ar outer sh H E) rfl
    have hp : Passes (L2.CX P w) (cxOf (L2.CX P w) P w K mg base ["deal", "bound", "rest"] "_law_any" (defScope st__law_any) T.A__law_any cdv Ar outer sh H E) E := passes_call (takes_of rfl rfl rfl rfl) fun _ _ _ _ h => h
    exact dss_cons (ds_while (fuel := fuW) ho (dt_w (dw_and (dt_d0ne (pt_cmpR (op_neD hu4) (pe_ix ix_list (pv 0) pe_int (fun _ _ => rfl)) (pe_lst pa_nil) (nomark _))) (dw_and1 (dt_d0z (pt_cmpR (op_eqD hu4) (pe_ix ix_list (pe_ix ix_list (pv 0) pe_int (fun _ _ => rfl)) (pe_un un_neg pe_int) (fun _ _ => rfl)) pe_int (nomark _)))))) (dss_one (ds_d0pop (ps_expr (pe_bm0 PySem.F.plainAttrs_list PySem.F.slot_list_pop PySem.F.type_list_pop mt_pop (pe_ix ix_list (pv 0) pe_int (fun _ _ => rfl)))))))
      (dss_cons (ds_if (dt_d0ne (pt_cmpR (op_neD hu4) (pe_ix ix_list (pv 0) pe_int (fun _ _ => rfl)) (pe_lst pa_nil) (nomark _))) (dss_cons (ds_d0popI (ps_set (i := 2) nd rfl (Or.inl rfl) (pe_callTy call_int1 rfl T.n_int bt_int (pa_cons (pe_bm0 PySem.F.plainAttrs_list PySem.F.slot_list_pop PySem.F.type_list_pop mt_pop (pe_ix ix_list (pv 0) pe_int (fun _ _ => rfl))) pa_nil)))) (dss_cons (ds_d0app (ps_expr (pe_bm PySem.F.plainAttrs_list PySem.F.slot_list_append PySem.F.type_list_append mt_append (pe_ix ix_list (pv 0) pe_int (fun _ _ => rfl)) (pa_cons (de_op od_fdiv (de_bor (pv 2)) (de_bor (pv 1))) pa_nil)))) (dss_one (ds_ret (de_op od_mod (de_bor (pv 2)) (de_bor (pv 1))))))) dss_nil)
      (dss_cons (ds_d1 (ps_asg (de_op od_mod (de_t1 cd_int rfl T.n_int bt_int (de_op od_add (de_op od_mul (de_d1 (pe_ix ix_list (pv 0) pe_int (fun _ _ => rfl))) de_int) de_int)) de_int) (pg_sub (pv 0) pe_int set_list)))
      (dss_one (ds_ret (de_op od_mod (de_t1 cd_int rfl T.n_int bt_int (de_op od_fdiv (de_d1 (pe_ix ix_list (pv 0) pe_int (fun _ _ => rfl))) de_int)) (de_bor (pv 1)))))))
theorem ok__law_of (T : Txt K mg) (hA : A.K = K) : FnOk P w K mg base (L2.CX P w) 2 T.A__law_of T.D__law_of ["deal", "some"] (spD A 2 F__law_of) := by
  have G__law_any := ok__law_any (P := P) (w := w) (base := base) (A := A) T hA
  exact def_ok (k := 1) T.F__law_of sc__law_of rfl fun cdv Ar outer sh H Hb E hr => by
    have hK : K = A.K := hA.symm
    have nd := sc__law_of.nd
    have hu : (Ar.deeper (envOfC "_law_of" (defScope st__law_of) sh.heap.objs.size T.A__law_of cdv)).units + 65 < cLine := by have := hr.un; omega
    have hu4 : (Ar.deeper (envOfC "_law_of" (defScope st__law_of) sh.heap.objs.size T.A__law_of cdv)).units + 64 < cLine := by omega
    have ho := passes_of (X := cxOf (L2.CX P w) P w K mg base ["deal", "some"] "_law_of" (defScope st__law_of) T.A__law_of cdv Ar outer sh H E) rfl
    have hp : Passes (L2.CX P w) (cxOf (L2.CX P w) P w K mg base ["deal", "some"] "_law_of" (defScope st__law_of) T.A__law_of cdv Ar outer sh H E) E := passes_call (takes_of rfl rfl rfl rfl) fun _ _ _ _ h => h
    exact (dss_one (ds_ret (de_ix hK (de_bor (pv 1)) (de_call (Calls.of G__law_any (hr.mono (by decide))) hp rfl T.g__law_any T.F__law_any.kp (b__law_any T) (da_cons (de_var (pv 0)) (da_cons (de_b1 cd_len rfl T.n_len bt_len (de_bor (pv 1))) da_nil))))))
theorem ok__law_mixed (T : Txt K mg) (hA : A.K = K) : FnOk P w K mg base (L2.CX P w) 2 T.A__law_mixed T.D__law_mixed ["deal", "some"] (spD A 2 F__law_mixed) := by
  have G__law_any := ok__law_any (P := P) (w := w) (base := base) (A := A) T hA
  exact def_ok (k := 1) T.F__law_mixed sc__law_mixed rfl fun cdv Ar outer sh H Hb E hr => by
    have hK : K = A.K := hA.symm
    have nd := sc__law_mixed.nd
    have hu : (Ar.deeper (envOfC "_law_mixed" (defScope st__law_mixed) sh.heap.objs.size T.A__law_mixed cdv)).units + 65 < cLine := by have := hr.un; omega
    have hu4 : (Ar.deeper (envOfC "_law_mixed" (defScope st__law_mixed) sh.heap.objs.size T.A__law_mixed cdv)).units + 64 < cLine := by omega
    have ho := passes_of (X := cxOf (L2.CX P w) P w K mg base ["deal", "some", "left", "found"] "_law_mixed" (defScope st__law_mixed) T.A__law_mixed cdv Ar outer sh H E) rfl
    have hp : Passes (L2.CX P w) (cxOf (L2.CX P w) P w K mg base ["deal", "some", "left", "found"] "_law_mixed" (defScope st__law_mixed) T.A__law_mixed cdv Ar outer sh H E) E := passes_call (takes_of rfl rfl rfl rfl) fun _ _ _ _ h => h
    exact (dss_cons (ds_par (i := 2) (j := 3) rfl nd rfl rfl (by decide) rfl rfl (de_t1 cd_list rfl T.n_list bt_list (de_bor (pv 1))) (fun _ => (de_lst da_nil)) rfl) (dss_cons (ds_while (fuel := (fuL 2)) ho (dt_cmp (od_ne hK hu4) (de_bor (pv 2)) (de_lst da_nil) (nomark _)) (dss_one (ds_appPop (ps_expr (pe_bm PySem.F.plainAttrs_list PySem.F.slot_list_append PySem.F.type_list_append mt_append (pv 3) (pa_cons (pe_bm PySem.F.plainAttrs_list PySem.F.slot_list_pop PySem.F.type_list_pop mt_popAt (pv 2) (pa_cons (de_call (Calls.of G__law_any (hr.mono (by decide))) hp rfl T.g__law_any T.F__law_any.kp (b__law_any T) (da_cons (de_var (pv 0)) (da_cons (de_b1 cd_len rfl T.n_len bt_len (de_bor (pv 2))) da_nil))) pa_nil)) pa_nil)))))) (dss_one (ds_ret (de_mov (pv 3))))))
theorem ok__law_reordering (T : Txt K mg) (hA : A.K = K) : FnOk P w K mg base (L2.CX P w) 3 T.A__law_reordering T.D__law_reordering ["deal", "many", "triple"] (spD A 3 F__law_reordering) := by
  have G__law_mixed := ok__law_mixed (P := P) (w := w) (base := base) (A := A) T hA
  exact def_ok (k := 2) T.F__law_reordering sc__law_reordering rfl fun cdv Ar outer sh H Hb E hr => by
    have hK : K = A.K := hA.symm
    have nd := sc__law_reordering.nd
    have hu : (Ar.deeper (envOfC "_law_reordering" (defScope st__law_reordering) sh.heap.objs.size T.A__law_reordering cdv)).units + 65 < cLine := by have := hr.un; omega
    have hu4 : (Ar.deeper (envOfC "_law_reordering" (defScope st__law_reordering) sh.heap.objs.size T.A__law_reordering cdv)).units + 64 < cLine := by omega
    have ho := passes_of (X := cxOf (L2.CX P w) P w K mg base ["deal", "many", "triple", "first", "last", "step", "p", "rest", "lot", "at", "place"] "_law_reordering" (defScope st__law_reordering) T.A__law_reordering cdv Ar outer sh H E) rfl
    have hp : Passes (L2.CX P w) (cxOf (L2.CX P w) P w K mg base ["deal", "many", "triple", "first", "last", "step", "p", "rest", "lot", "at", "place"] "_law_reordering" (defScope st__law_reordering) T.A__law_reordering cdv Ar outer sh H E) E := passes_call (takes_of rfl rfl rfl rfl) fun _ _ _ _ h => h
    exact (dss_cons (ds_asg (de_var (pv 2)) (pg_tup rfl (pgs_cons (pg_name (i := 3) nd rfl (Or.inr rfl)) (pgs_cons (pg_name (i := 4) nd rfl (Or.inl rfl)) (pgs_cons (pg_name (i := 5) nd rfl (Or.inr rfl)) pgs_nil)))) (tgs_tup (tgs_cons tgs_name (tgs_cons tgs_name (tgs_cons tgs_name tgs_nil))))) (dss_cons (ds_set (ps_set (i := 6) nd rfl (Or.inl rfl) (de_listRg rfl rfl T.n_list rfl T.n_range (de_bor (pv 1))))) (dss_cons (ds_for ho rfl (di_range1 rfl T.n_range (de_bor (pv 5))) (pg_name (i := 7) nd rfl (Or.inr rfl)) tgs_name (dss_cons (ds_setLc (i := 8) rfl nd rfl rfl rfl (by exact (di_range2 rfl T.n_range (de_bor (pv 3)) (de_op od_sub (de_bor (pv 1)) (de_bor (pv 4))))) (blkOk_by (own := [("place", 10)]) (by kernel_rfl)) (fun _ _ _ _ _ => (pg_name (i := 10) nd rfl (Or.inl rfl))) tgs_name rfl (fun _ _ _ _ _ _ => (dts_one (dt_cmp (od_eq hK hu4) (de_op od_mod (de_t1 cd_int rfl T.n_int bt_int (de_op od_sub (de_bor (pv 10)) (de_bor (pv 3)))) (de_bor (pv 5))) (de_bor (pv 7)) (nomark _)))) (fun _ _ _ _ _ _ => (de_var (pv 10)))) (dss_one (ds_for ho rfl (di_en rfl T.n_enumerate (da_cons (de_call (Calls.of G__law_mixed (hr.mono (by decide))) hp rfl T.g__law_mixed T.F__law_mixed.kp (b__law_mixed T) (da_cons (de_var (pv 0)) (da_cons (de_var (pv 8)) da_nil))) da_nil)) (pg_tup rfl (pgs_cons (pg_name (i := 9) nd rfl (Or.inl rfl)) (pgs_cons (pg_name (i := 10) nd rfl (Or.inl rfl)) pgs_nil))) (tgs_tup (tgs_cons tgs_name (tgs_cons tgs_name tgs_nil))) (dss_one (ds_putI (ps_asg (de_var (pv 10)) (pg_sub (pv 6) (de_ix hK (de_bor (pv 8)) (de_bor (pv 9))) set_list)))))))) (dss_one (ds_ret (de_t1 cd_tuple rfl T.n_tuple bt_tuple (de_bor (pv 6))))))))
theorem ok__law_near (T : Txt K mg) (hA : A.K = K) : FnOk P w K mg base (L2.CX P w) 2 T.A__law_near T.D__law_near ["deal", "p"] (spD A 2 F__law_near) := by
  have G__law_any := ok__law_any (P := P) (w := w) (base := base) (A := A) T hA
  exact def_ok (k := 1) T.F__law_near sc__law_near rfl fun cdv Ar outer sh H Hb E hr => by
    have hK : K = A.K := hA.symm
    have nd := sc__law_near.nd
    have hu : (Ar.deeper (envOfC "_law_near" (defScope st__law_near) sh.heap.objs.size T.A__law_near cdv)).units + 65 < cLine := by have := hr.un; omega
    have hu4 : (Ar.deeper (envOfC "_law_near" (defScope st__law_near) sh.heap.objs.size T.A__law_near cdv)).units + 64 < cLine := by omega
    have ho := passes_of (X := cxOf (L2.CX P w) P w K mg base ["deal", "p", "i", "j"] "_law_near" (defScope st__law_near) T.A__law_near cdv Ar outer sh H E) rfl
    have hp : Passes (L2.CX P w) (cxOf (L2.CX P w) P w K mg base ["deal", "p", "i", "j"] "_law_near" (defScope st__law_near) T.A__law_near cdv Ar outer sh H E) E := passes_call (takes_of rfl rfl rfl rfl) fun _ _ _ _ h => h
    exact (dss_cons (ds_set (ps_set (i := 2) nd rfl (Or.inl rfl) (de_call (Calls.of G__law_any (hr.mono (by decide))) hp rfl T.g__law_any T.F__law_any.kp (b__law_any T) (da_cons (de_var (pv 0)) (da_cons (de_op od_sub (de_b1 cd_len rfl T.n_len bt_len (de_bor (pv 1))) de_int) da_nil))))) (dss_cons (ds_set (ps_set (i := 3) nd rfl (Or.inl rfl) (de_op od_add (de_op od_add (de_bor (pv 2)) de_int) (de_call (Calls.of G__law_any (hr.mono (by decide))) hp rfl T.g__law_any T.F__law_any.kp (b__law_any T) (da_cons (de_var (pv 0)) (da_cons (de_op od_sub (de_op od_sub (de_b1 cd_len rfl T.n_len bt_len (de_bor (pv 1))) de_int) (de_bor (pv 2))) da_nil)))))) (dss_one (ds_ret (de_op od_add (de_op od_add (de_op od_add (de_op od_add (de_sl hK (de_bor (pv 1)) do_none (do_some (de_bor (pv 2)))) (de_tup (da_cons (de_ix hK (de_bor (pv 1)) (de_bor (pv 3))) da_nil))) (de_sl hK (de_bor (pv 1)) (do_some (de_op od_add (de_bor (pv 2)) de_int)) (do_some (de_bor (pv 3))))) (de_tup (da_cons (de_ix hK (de_bor (pv 1)) (de_bor (pv 2))) da_nil))) (de_sl hK (de_bor (pv 1)) (do_some (de_op od_add (de_bor (pv 3)) de_int)) do_none))))))
theorem ok__law_lets (T : Txt K mg) (hA : A.K = K) : FnOk P w K mg base (L2.CX P w) 1 T.A__law_lets T.D__law_lets ["p", "triple"] (spD A 2 F__law_lets) := by
  exact def_ok (k := 0) T.F__law_lets sc__law_lets rfl fun cdv Ar outer sh H Hb E hr => by
    have hK : K = A.K := hA.symm
    have nd := sc__law_lets.nd
    have hu : (Ar.deeper (envOfC "_law_lets" (defScope st__law_lets) sh.heap.objs.size T.A__law_lets cdv)).units + 65 < cLine := by have := hr.un; omega
    have hu4 : (Ar.deeper (envOfC "_law_lets" (defScope st__law_lets) sh.heap.objs.size T.A__law_lets cdv)).units + 64 < cLine := by omega
    have ho := passes_of (X := cxOf (L2.CX P w) P w K mg base ["p", "triple", "first", "last", "step", "at", "place"] "_law_lets" (defScope st__law_lets) T.A__law_lets cdv Ar outer sh H E) rfl
    have hp : Passes (L2.CX P w) (cxOf (L2.CX P w) P w K mg base ["p", "triple", "first", "last", "step", "at", "place"] "_law_lets" (defScope st__law_lets) T.A__law_lets cdv Ar outer sh H E) E := passes_call (takes_of rfl rfl rfl rfl) fun _ _ _ _ h => h
    exact (dss_cons (ds_asg (de_var (pv 1)) (pg_tup rfl (pgs_cons (pg_name (i := 2) nd rfl (Or.inl rfl)) (pgs_cons (pg_name (i := 3) nd rfl (Or.inl rfl)) (pgs_cons (pg_name (i := 4) nd rfl (Or.inl rfl)) pgs_nil)))) (tgs_tup (tgs_cons tgs_name (tgs_cons tgs_name (tgs_cons tgs_name tgs_nil))))) (dss_cons (ds_for ho rfl (di_en rfl T.n_enumerate (da_cons (de_var (pv 0)) da_nil)) (pg_tup rfl (pgs_cons (pg_name (i := 5) nd rfl (Or.inl rfl)) (pgs_cons (pg_name (i := 6) nd rfl (Or.inl rfl)) pgs_nil))) (tgs_tup (tgs_cons tgs_name (tgs_cons tgs_name tgs_nil))) (dss_one (ds_if (dt_w (dw_and (dt_cmp (od_ne hK hu4) (de_bor (pv 6)) (de_bor (pv 5)) (nomark _)) (dw_and1 (dt_w (dw_or (dt_cmp od_lt (de_bor (pv 5)) (de_bor (pv 2)) (nomark _)) (dw_or (dt_cmp od_ge (de_bor (pv 5)) (de_op od_sub (de_b1 cd_len rfl T.n_len bt_len (de_bor (pv 0))) (de_bor (pv 3))) (nomark _)) (dw_or1 (dt_cmp od_gt (de_op od_mod (de_t1 cd_int rfl T.n_int bt_int (de_op od_sub (de_bor (pv 6)) (de_bor (pv 5)))) (de_bor (pv 4))) de_int (nomark _))))))))) (dss_one (ds_ret de_bl)) dss_nil))) (dss_one (ds_ret de_bl))))
theorem ok__law_frame (T : Txt K mg) (hA : A.K = K) : FnOk P w K mg base (L2.CX P w) 1 T.A__law_frame T.D__law_frame ["p"] (spD A 1 F__law_frame) := by
  exact def_ok (k := 0) T.F__law_frame sc__law_frame rfl fun cdv Ar outer sh H Hb E hr => by
    have hK : K = A.K := hA.symm
    have nd := sc__law_frame.nd
    have hu : (Ar.deeper (envOfC "_law_frame" (defScope st__law_frame) sh.heap.objs.size T.A__law_frame cdv)).units + 65 < cLine := by have := hr.un; omega
    have hu4 : (Ar.deeper (envOfC "_law_frame" (defScope st__law_frame) sh.heap.objs.size T.A__law_frame cdv)).units + 64 < cLine := by omega
    have ho := passes_of (X := cxOf (L2.CX P w) P w K mg base ["p", "moved", "gaps", "fit", "at", "place", "step", "gap"] "_law_frame" (defScope st__law_frame) T.A__law_frame cdv Ar outer sh H E) rfl
    have hp : Passes (L2.CX P w) (cxOf (L2.CX P w) P w K mg base ["p", "moved", "gaps", "fit", "at", "place", "step", "gap"] "_law_frame" (defScope st__law_frame) T.A__law_frame cdv Ar outer sh H E) E := passes_call (takes_of rfl rfl rfl rfl) fun _ _ _ _ h => h
    exact (dss_cons (ds_setLc (i := 1) rfl nd rfl rfl rfl (by exact (di_en rfl T.n_enumerate (da_cons (de_var (pv 0)) da_nil))) (blkOk_by (own := [("at", 4), ("place", 5)]) (by kernel_rfl)) (fun _ _ _ _ _ => (pg_tup rfl (pgs_cons (pg_name (i := 4) nd rfl (Or.inl rfl)) (pgs_cons (pg_name (i := 5) nd rfl (Or.inl rfl)) pgs_nil)))) (tgs_tup (tgs_cons tgs_name (tgs_cons tgs_name tgs_nil))) rfl (fun _ _ _ _ _ _ => (dts_one (dt_cmp (od_ne hK hu4) (de_bor (pv 5)) (de_bor (pv 4)) (nomark _)))) (fun _ _ _ _ _ _ => (de_var (pv 4)))) (dss_cons (ds_if (dt_cmp (od_eq hK hu4) (de_bor (pv 1)) (de_lst da_nil) (nomark _)) (dss_one (ds_ret de_non)) dss_nil) (dss_cons (ds_set (ps_set (i := 2) nd rfl (Or.inr rfl) (de_lc rfl nd (by exact (di_seq (de_var (pv 1)))) (blkOk_by (own := [("at", 4)]) (by kernel_rfl)) (fun _ _ _ _ _ => (pg_name (i := 4) nd rfl (Or.inl rfl))) tgs_name rfl (fun _ _ _ _ _ _ => dts_nil) (fun _ _ _ _ _ _ => (de_b2 (cd_max2 rfl) rfl T.n_max bt_max (de_op od_sub (de_bor (pv 4)) (de_ix hK (de_bor (pv 0)) (de_bor (pv 4)))) (de_op od_sub (de_ix hK (de_bor (pv 0)) (de_bor (pv 4))) (de_bor (pv 4)))))))) (dss_cons (ds_setLc (i := 3) rfl nd rfl rfl rfl (by exact (di_range2 rfl T.n_range de_int (de_op od_add (de_b1 (cd_min rfl) rfl T.n_min bt_min (de_bor (pv 2))) de_int))) (blkOk_by (own := [("step", 6)]) (by kernel_rfl)) (fun _ _ _ _ _ => (pg_name (i := 6) nd rfl (Or.inr rfl))) tgs_name rfl (fun _ _ _ _ _ _ => (dts_one (dt_cmp (od_eq hK hu4) (de_lc rfl nd (by exact (di_seq (de_var (pv 2)))) (blkOk_by (own := [("gap", 7)]) (by kernel_rfl)) (fun _ _ _ _ _ => (pg_name (i := 7) nd rfl (Or.inl rfl))) tgs_name rfl (fun _ _ _ _ _ _ => (dts_one (dt_cmp od_gt (de_op od_mod (de_t1 cd_int rfl T.n_int bt_int (de_bor (pv 7))) (de_bor (pv 6))) de_int (nomark _)))) (fun _ _ _ _ _ _ => (de_var (pv 7)))) (de_lst da_nil) (nomark _)))) (fun _ _ _ _ _ _ => (de_var (pv 6)))) (dss_one (ds_ret (de_tup (da_cons (de_ix hK (de_bor (pv 1)) de_int) (da_cons (de_op od_sub (de_op od_sub (de_b1 cd_len rfl T.n_len bt_len (de_bor (pv 0))) de_int) (de_ix hK (de_bor (pv 1)) (de_neg de_int))) (da_cons (de_ix hK (de_bor (pv 3)) (de_neg de_int)) da_nil))))))))))
theorem ok__law_hidden (T : Txt K mg) (hA : A.K = K) : FnOk P w K mg base (L2.CX P w) 3 T.A__law_hidden T.D__law_hidden ["deal"] (spD A 1 F__law_hidden) := by
  have G__law_any := ok__law_any (P := P) (w := w) (base := base) (A := A) T hA
  have G__law_of := ok__law_of (P := P) (w := w) (base := base) (A := A) T hA
  exact def_ok (k := 2) T.F__law_hidden sc__law_hidden rfl fun cdv Ar outer sh H Hb E hr => by
    have hK : K = A.K := hA.symm
    have nd := sc__law_hidden.nd
    have hu : (Ar.deeper (envOfC "_law_hidden" (defScope st__law_hidden) sh.heap.objs.size T.A__law_hidden cdv)).units + 65 < cLine := by have := hr.un; omega
    have hu4 : (Ar.deeper (envOfC "_law_hidden" (defScope st__law_hidden) sh.heap.objs.size T.A__law_hidden cdv)).units + 64 < cLine := by omega
    have ho := passes_of (X := cxOf (L2.CX P w) P w K mg base ["deal"] "_law_hidden" (defScope st__law_hidden) T.A__law_hidden cdv Ar outer sh H E) rfl
    have hp : Passes (L2.CX P w) (cxOf (L2.CX P w) P w K mg base ["deal"] "_law_hidden" (defScope st__law_hidden) T.A__law_hidden cdv Ar outer sh H E) E := passes_call (takes_of rfl rfl rfl rfl) fun _ _ _ _ h => h
    exact (dss_one (ds_ret (de_tup (da_cons (de_call (Calls.of G__law_any (hr.mono (by decide))) hp rfl T.g__law_any T.F__law_any.kp (b__law_any T) (da_cons (de_var (pv 0)) (da_cons de_int da_nil))) (da_cons (de_call (Calls.of G__law_any (hr.mono (by decide))) hp rfl T.g__law_any T.F__law_any.kp (b__law_any T) (da_cons (de_var (pv 0)) (da_cons de_int da_nil))) (da_cons (de_call (Calls.of G__law_of (hr.mono (by decide))) hp rfl T.g__law_of T.F__law_of.kp (b__law_of T) (da_cons (de_var (pv 0)) (da_cons (de_lst (da_cons de_int (da_cons de_int (da_cons de_int (da_cons de_int (da_cons de_int (da_cons de_int (da_cons de_int (da_cons de_int (da_cons de_int (da_cons de_int da_nil))))))))))) da_nil))) da_nil))))))
theorem ok__law_found (T : Txt K mg) (hA : A.K = K) : FnOk P w K mg base (L2.CX P w) 4 T.A__law_found T.D__law_found ["deal", "hidden"] (spD A 2 F__law_found) := by
  have G__law_any := ok__law_any (P := P) (w := w) (base := base) (A := A) T hA
  have G__law_mixed := ok__law_mixed (P := P) (w := w) (base := base) (A := A) T hA
  have G__law_near := ok__law_near (P := P) (w := w) (base := base) (A := A) T hA
  have G__law_of := ok__law_of (P := P) (w := w) (base := base) (A := A) T hA
  have G__law_reordering := ok__law_reordering (P := P) (w := w) (base := base) (A := A) T hA
  exact def_ok (k := 3) T.F__law_found sc__law_found rfl fun cdv Ar outer sh H Hb E hr => by
    have hK : K = A.K := hA.symm
    have nd := sc__law_found.nd
    have hu : (Ar.deeper (envOfC "_law_found" (defScope st__law_found) sh.heap.objs.size T.A__law_found cdv)).units + 65 < cLine := by have := hr.un; omega
    have hu4 : (Ar.deeper (envOfC "_law_found" (defScope st__law_found) sh.heap.objs.size T.A__law_found cdv)).units + 64 < cLine := by omega
    have ho := passes_of (X := cxOf (L2.CX P w) P w K mg base ["deal", "hidden", "form", "many", "p", "a", "b", "s", "q"] "_law_found" (defScope st__law_found) T.A__law_found cdv Ar outer sh H E) rfl
    have hp : Passes (L2.CX P w) (cxOf (L2.CX P w) P w K mg base ["deal", "hidden", "form", "many", "p", "a", "b", "s", "q"] "_law_found" (defScope st__law_found) T.A__law_found cdv Ar outer sh H E) E := passes_call (takes_of rfl rfl rfl rfl) fun _ _ _ _ h => h
    exact (dss_cons (ds_par (i := 2) (j := 3) rfl nd rfl rfl (by decide) rfl rfl (de_call (Calls.of G__law_any (hr.mono (by decide))) hp rfl T.g__law_any T.F__law_any.kp (b__law_any T) (da_cons (de_var (pv 0)) (da_cons de_int da_nil))) (fun _ => (de_op od_add (de_b1 (cd_sumA rfl) rfl T.n_sum bt_sum (de_bor (pv 1))) (de_call (Calls.of G__law_any (hr.mono (by decide))) hp rfl T.g__law_any T.F__law_any.kp (b__law_any T) (da_cons (de_var (pv 0)) (da_cons de_int da_nil))))) rfl) (dss_cons (ds_set (ps_set (i := 4) nd rfl (Or.inl rfl) (de_call (Calls.of G__law_reordering (hr.mono (by decide))) hp rfl T.g__law_reordering T.F__law_reordering.kp (b__law_reordering T) (da_cons (de_var (pv 0)) (da_cons (de_var (pv 3)) (da_cons (de_var (pv 1)) da_nil)))))) (dss_cons (ds_if (dt_cmp (od_eq hK hu4) (de_bor (pv 2)) de_int (nomark _)) (dss_one (ds_ret (de_tupRg rfl rfl T.n_tuple rfl T.n_range (de_bor (pv 3))))) dss_nil) (dss_cons (ds_if (dt_cmp (od_eq hK hu4) (de_bor (pv 2)) de_int (nomark _)) (dss_one (ds_ret (de_t1 cd_tuple rfl T.n_tuple bt_tuple (de_call (Calls.of G__law_mixed (hr.mono (by decide))) hp rfl T.g__law_mixed T.F__law_mixed.kp (b__law_mixed T) (da_cons (de_var (pv 0)) (da_cons (de_listRg rfl rfl T.n_list rfl T.n_range (de_call (Calls.of G__law_any (hr.mono (by decide))) hp rfl T.g__law_any T.F__law_any.kp (b__law_any T) (da_cons (de_var (pv 0)) (da_cons de_int da_nil)))) da_nil)))))) dss_nil) (dss_cons (ds_if (dt_w (dw_and (dt_cmp (od_eq hK hu4) (de_bor (pv 2)) de_int (nomark _)) (dw_and1 (dt_cmp od_gt (de_bor (pv 3)) de_int (nomark _))))) (dss_one (ds_ret (de_call (Calls.of G__law_near (hr.mono (by decide))) hp rfl T.g__law_near T.F__law_near.kp (b__law_near T) (da_cons (de_var (pv 0)) (da_cons (de_var (pv 4)) da_nil))))) dss_nil) (dss_cons (ds_if (dt_cmp od_lt (de_bor (pv 2)) de_int (nomark _)) (dss_cons (ds_asg (de_lst (da_cons (de_op od_sub (de_op od_add (de_ix hK (de_bor (pv 1)) de_int) (de_call (Calls.of G__law_any (hr.mono (by decide))) hp rfl T.g__law_any T.F__law_any.kp (b__law_any T) (da_cons (de_var (pv 0)) (da_cons de_int da_nil)))) de_int) (da_cons (de_op od_sub (de_op od_add (de_ix hK (de_bor (pv 1)) de_int) (de_call (Calls.of G__law_any (hr.mono (by decide))) hp rfl T.g__law_any T.F__law_any.kp (b__law_any T) (da_cons (de_var (pv 0)) (da_cons de_int da_nil)))) de_int) (da_cons (de_op od_mul (de_ix hK (de_bor (pv 1)) de_int) (de_op od_add de_int (de_call (Calls.of G__law_any (hr.mono (by decide))) hp rfl T.g__law_any T.F__law_any.kp (b__law_any T) (da_cons (de_var (pv 0)) (da_cons de_int da_nil))))) da_nil)))) (pg_unl rfl (pgs_cons (pg_name (i := 5) nd rfl (Or.inl rfl)) (pgs_cons (pg_name (i := 6) nd rfl (Or.inl rfl)) (pgs_cons (pg_name (i := 7) nd rfl (Or.inl rfl)) pgs_nil)))) (tgs_unl (tgs_cons tgs_name (tgs_cons tgs_name (tgs_cons tgs_name tgs_nil))))) (dss_cons (ds_set (ps_set (i := 7) nd rfl (Or.inl rfl) (de_b2 (cd_max2 rfl) rfl T.n_max bt_max de_int (de_op od_fdiv (de_bor (pv 7)) (de_call (Calls.of G__law_of (hr.mono (by decide))) hp rfl T.g__law_of T.F__law_of.kp (b__law_of T) (da_cons (de_var (pv 0)) (da_cons (de_lst (da_cons de_int (da_cons de_int (da_cons de_int (da_cons de_int da_nil))))) da_nil))))))) (dss_cons (ds_set (ps_set (i := 8) nd rfl (Or.inl rfl) (de_listRg rfl rfl T.n_list rfl T.n_range (de_op od_add (de_op od_add (de_op od_add (de_b2 (cd_max2 rfl) rfl T.n_max bt_max (de_bor (pv 5)) de_int) (de_bor (pv 7))) de_int) (de_b2 (cd_max2 rfl) rfl T.n_max bt_max (de_bor (pv 6)) de_int))))) (dss_cons (ds_swapI (ps_asg (pe_tup (da_cons (de_op od_add (de_b2 (cd_max2 rfl) rfl T.n_max bt_max (de_bor (pv 5)) de_int) (de_bor (pv 7))) (da_cons (de_b2 (cd_max2 rfl) rfl T.n_max bt_max (de_bor (pv 5)) de_int) da_nil))) (pg_tup rfl (pgs_cons (pg_sub (pv 8) (de_b2 (cd_max2 rfl) rfl T.n_max bt_max (de_bor (pv 5)) de_int) set_list) (pgs_cons (pg_sub (pv 8) (de_op od_add (de_b2 (cd_max2 rfl) rfl T.n_max bt_max (de_bor (pv 5)) de_int) (de_bor (pv 7))) set_list) pgs_nil))))) (dss_one (ds_ret (de_t1 cd_tuple rfl T.n_tuple bt_tuple (de_bor (pv 8))))))))) dss_nil) (dss_one (ds_ret (de_mov (pv 4))))))))))
theorem ok__law_findings (T : Txt K mg) (hA : A.K = K) : FnOk P w K mg base (L2.CX P w) 5 T.A__law_findings T.D__law_findings ["deal", "hidden", "many", "wrong"] (spD A 4 F__law_findings) := by
  have G__law_any := ok__law_any (P := P) (w := w) (base := base) (A := A) T hA
  have G__law_found := ok__law_found (P := P) (w := w) (base := base) (A := A) T hA
  have G__law_lets := ok__law_lets (P := P) (w := w) (base := base) (A := A) T hA
  exact def_ok (k := 4) T.F__law_findings sc__law_findings rfl fun cdv Ar outer sh H Hb E hr => by
    have hK : K = A.K := hA.symm
    have nd := sc__law_findings.nd
    have hu : (Ar.deeper (envOfC "_law_findings" (defScope st__law_findings) sh.heap.objs.size T.A__law_findings cdv)).units + 65 < cLine := by have := hr.un; omega
    have hu4 : (Ar.deeper (envOfC "_law_findings" (defScope st__law_findings) sh.heap.objs.size T.A__law_findings cdv)).units + 64 < cLine := by omega
    have ho := passes_of (X := cxOf (L2.CX P w) P w K mg base ["deal", "hidden", "many", "wrong", "found", "turn", "p", "at"] "_law_findings" (defScope st__law_findings) T.A__law_findings cdv Ar outer sh H E) rfl
    have hp : Passes (L2.CX P w) (cxOf (L2.CX P w) P w K mg base ["deal", "hidden", "many", "wrong", "found", "turn", "p", "at"] "_law_findings" (defScope st__law_findings) T.A__law_findings cdv Ar outer sh H E) E := passes_call (takes_of rfl rfl rfl rfl) fun _ _ _ _ h => h
    exact (dss_cons (ds_set (ps_set (i := 4) nd rfl (Or.inl rfl) (de_lst da_nil))) (dss_cons (ds_for ho rfl (di_range1 rfl T.n_range (de_bor (pv 2))) (pg_name (i := 5) nd rfl (Or.inl rfl)) tgs_name (dss_cons (ds_set (ps_set (i := 6) nd rfl (Or.inl rfl) (de_call (Calls.of G__law_found (hr.mono (by decide))) hp rfl T.g__law_found T.F__law_found.kp (b__law_found T) (da_cons (de_var (pv 0)) (da_cons (de_var (pv 1)) da_nil))))) (dss_one (ds_app (ps_expr (pe_bm PySem.F.plainAttrs_list PySem.F.slot_list_append PySem.F.type_list_append mt_append (pv 4) (pa_cons (de_tup (da_cons (de_var (pv 6)) (da_cons (de_call (Calls.of G__law_lets (hr.mono (by decide))) hp rfl T.g__law_lets T.F__law_lets.kp (b__law_lets T) (da_cons (de_var (pv 6)) (da_cons (de_var (pv 1)) da_nil))) da_nil))) pa_nil))))))) (dss_cons (ds_if (dt_w (dw_and (dt_tru hK (de_bor (pv 3)) (fun _ => rfl)) (dw_and (dt_cmp (od_ne hK hu4) (de_bor (pv 4)) (de_lst da_nil) (nomark _)) (dw_and1 (dt_cmp (od_eq hK hu4) (de_call (Calls.of G__law_any (hr.mono (by decide))) hp rfl T.g__law_any T.F__law_any.kp (b__law_any T) (da_cons (de_var (pv 0)) (da_cons de_int da_nil))) de_int (nomark _)))))) (dss_cons (ds_set (ps_set (i := 7) nd rfl (Or.inl rfl) (de_call (Calls.of G__law_any (hr.mono (by decide))) hp rfl T.g__law_any T.F__law_any.kp (b__law_any T) (da_cons (de_var (pv 0)) (da_cons (de_b1 cd_len rfl T.n_len bt_len (de_bor (pv 4))) da_nil))))) (dss_one (ds_putI (ps_asg (de_tup (da_cons (de_ix hK (de_ix hK (de_bor (pv 4)) (de_bor (pv 7))) de_int) (da_cons (de_not (de_ix hK (de_ix hK (de_bor (pv 4)) (de_bor (pv 7))) de_int)) da_nil))) (pg_sub (pv 4) (de_bor (pv 7)) set_list))))) dss_nil) (dss_one (ds_ret (de_t1 cd_tuple rfl T.n_tuple bt_tuple (de_bor (pv 4))))))))
theorem ok__law_gcd (T : Txt K mg) (hA : A.K = K) : FnOk P w K mg base (L2.CX P w) 1 T.A__law_gcd T.D__law_gcd ["one", "other"] (spD A 2 F__law_gcd) := by
  exact def_ok (k := 0) T.F__law_gcd sc__law_gcd rfl fun cdv Ar outer sh H Hb E hr => by
    have hK : K = A.K := hA.symm
    have nd := sc__law_gcd.nd
    have hu : (Ar.deeper (envOfC "_law_gcd" (defScope st__law_gcd) sh.heap.objs.size T.A__law_gcd cdv)).units + 65 < cLine := by have := hr.un; omega
    have hu4 : (Ar.deeper (envOfC "_law_gcd" (defScope st__law_gcd) sh.heap.objs.size T.A__law_gcd cdv)).units + 64 < cLine := by omega
    have ho := passes_of (X := cxOf (L2.CX P w) P w K mg base ["one", "other"] "_law_gcd" (defScope st__law_gcd) T.A__law_gcd cdv Ar outer sh H E) rfl
    have hp : Passes (L2.CX P w) (cxOf (L2.CX P w) P w K mg base ["one", "other"] "_law_gcd" (defScope st__law_gcd) T.A__law_gcd cdv Ar outer sh H E) E := passes_call (takes_of rfl rfl rfl rfl) fun _ _ _ _ h => h
    exact (dss_cons (ds_while (fuel := (fuI 1)) ho (dt_cmp od_gt (de_bor (pv 1)) de_int (nomark _)) (dss_one (ds_par (i := 0) (j := 1) rfl nd rfl rfl (by decide) rfl rfl (de_var (pv 1)) (fun _ => (de_op od_mod (de_t1 cd_int rfl T.n_int bt_int (de_bor (pv 0))) (de_bor (pv 1)))) rfl))) (dss_one (ds_ret (de_mov (pv 0)))))
theorem ok__law_bound (T : Txt K mg) (hA : A.K = K) : FnOk P w K mg base (L2.CX P w) 2 T.A__law_bound T.D__law_bound ["told"] (spD A 1 F__law_bound) := by
  have G__law_frame := ok__law_frame (P := P) (w := w) (base := base) (A := A) T hA
  have G__law_gcd := ok__law_gcd (P := P) (w := w) (base := base) (A := A) T hA
  exact def_ok (k := 1) T.F__law_bound sc__law_bound rfl fun cdv Ar outer sh H Hb E hr => by
    have hK : K = A.K := hA.symm
    have nd := sc__law_bound.nd
    have hu : (Ar.deeper (envOfC "_law_bound" (defScope st__law_bound) sh.heap.objs.size T.A__law_bound cdv)).units + 65 < cLine := by have := hr.un; omega
    have hu4 : (Ar.deeper (envOfC "_law_bound" (defScope st__law_bound) sh.heap.objs.size T.A__law_bound cdv)).units + 64 < cLine := by omega
    have ho := passes_of (X := cxOf (L2.CX P w) P w K mg base ["told", "frames", "step", "one", "p", "harmless"] "_law_bound" (defScope st__law_bound) T.A__law_bound cdv Ar outer sh H E) rfl
    have hp : Passes (L2.CX P w) (cxOf (L2.CX P w) P w K mg base ["told", "frames", "step", "one", "p", "harmless"] "_law_bound" (defScope st__law_bound) T.A__law_bound cdv Ar outer sh H E) E := passes_call (takes_of rfl rfl rfl rfl) fun _ _ _ _ h => h
    exact (dss_cons (ds_setLc (i := 1) rfl nd rfl rfl rfl (by exact (di_seq (de_var (pv 0)))) (blkOk_by (own := [("p", 4), ("harmless", 5)]) (by kernel_rfl)) (fun _ _ _ _ _ => (pg_tup rfl (pgs_cons (pg_name (i := 4) nd rfl (Or.inl rfl)) (pgs_cons (pg_name (i := 5) nd rfl (Or.inl rfl)) pgs_nil)))) (tgs_tup (tgs_cons tgs_name (tgs_cons tgs_name tgs_nil))) rfl (fun _ _ _ _ _ _ => (dts_one (dt_w (dw_and (dt_tru hK (de_bor (pv 5)) (fun _ => rfl)) (dw_and1 (dt_cmp od_notN (de_call (Calls.of G__law_frame (hr.mono (by decide))) passE rfl T.g__law_frame T.F__law_frame.kp (b__law_frame T) (da_cons (de_var (pv 4)) da_nil)) de_non (nomark _))))))) (fun _ _ _ _ _ _ => (de_call (Calls.of G__law_frame (hr.mono (by decide))) passE rfl T.g__law_frame T.F__law_frame.kp (b__law_frame T) (da_cons (de_var (pv 4)) da_nil)))) (dss_cons (ds_if (dt_cmp (od_eq hK hu4) (de_bor (pv 1)) (de_lst da_nil) (nomark _)) (dss_one (ds_ret de_non)) dss_nil) (dss_cons (ds_set (ps_set (i := 2) nd rfl (Or.inl rfl) de_int)) (dss_cons (ds_for ho rfl (di_seq (de_var (pv 1))) (pg_name (i := 3) nd rfl (Or.inl rfl)) tgs_name (dss_one (ds_set (ps_set (i := 2) nd rfl (Or.inl rfl) (de_call (Calls.of G__law_gcd (hr.mono (by decide))) hp rfl T.g__law_gcd T.F__law_gcd.kp (b__law_gcd T) (da_cons (de_var (pv 2)) (da_cons (de_ix hK (de_bor (pv 3)) de_int) da_nil))))))) (dss_one (ds_ret (de_tup (da_cons (de_b1 (cd_min rfl) rfl T.n_min bt_min (de_lc rfl nd (by exact (di_seq (de_var (pv 1)))) (blkOk_by (own := [("one", 3)]) (by kernel_rfl)) (fun _ _ _ _ _ => (pg_name (i := 3) nd rfl (Or.inl rfl))) tgs_name rfl (fun _ _ _ _ _ _ => dts_nil) (fun _ _ _ _ _ _ => (de_ix hK (de_bor (pv 3)) de_int)))) (da_cons (de_b1 (cd_min rfl) rfl T.n_min bt_min (de_lc rfl nd (by exact (di_seq (de_var (pv 1)))) (blkOk_by (own := [("one", 3)]) (by kernel_rfl)) (fun _ _ _ _ _ => (pg_name (i := 3) nd rfl (Or.inl rfl))) tgs_name rfl (fun _ _ _ _ _ _ => dts_nil) (fun _ _ _ _ _ _ => (de_ix hK (de_bor (pv 3)) de_int)))) (da_cons (de_var (pv 2)) da_nil))))))))))
theorem ok__law_left (T : Txt K mg) (hA : A.K = K) : FnOk P w K mg base (L2.CX P w) 3 T.A__law_left T.D__law_left ["told"] (spD A 1 F__law_left) := by
  have G__law_bound := ok__law_bound (P := P) (w := w) (base := base) (A := A) T hA
  have G__law_frame := ok__law_frame (P := P) (w := w) (base := base) (A := A) T hA
  exact def_ok (k := 2) T.F__law_left sc__law_left rfl fun cdv Ar outer sh H Hb E hr => by
    have hK : K = A.K := hA.symm
    have nd := sc__law_left.nd
    have hu : (Ar.deeper (envOfC "_law_left" (defScope st__law_left) sh.heap.objs.size T.A__law_left cdv)).units + 65 < cLine := by have := hr.un; omega
    have hu4 : (Ar.deeper (envOfC "_law_left" (defScope st__law_left) sh.heap.objs.size T.A__law_left cdv)).units + 64 < cLine := by omega
    have ho := passes_of (X := cxOf (L2.CX P w) P w K mg base ["told", "first", "last", "step", "harms", "found", "a", "b", "s", "p", "harmless", "h"] "_law_left" (defScope st__law_left) T.A__law_left cdv Ar outer sh H E) rfl
    have hp : Passes (L2.CX P w) (cxOf (L2.CX P w) P w K mg base ["told", "first", "last", "step", "harms", "found", "a", "b", "s", "p", "harmless", "h"] "_law_left" (defScope st__law_left) T.A__law_left cdv Ar outer sh H E) E := passes_call (takes_of rfl rfl rfl rfl) fun _ _ _ _ h => h
    exact (dss_cons (ds_asg (de_call (Calls.of G__law_bound (hr.mono (by decide))) hp rfl T.g__law_bound T.F__law_bound.kp (b__law_bound T) (da_cons (de_var (pv 0)) da_nil)) (pg_tup rfl (pgs_cons (pg_name (i := 1) nd rfl (Or.inl rfl)) (pgs_cons (pg_name (i := 2) nd rfl (Or.inl rfl)) (pgs_cons (pg_name (i := 3) nd rfl (Or.inl rfl)) pgs_nil)))) (tgs_tup (tgs_cons tgs_name (tgs_cons tgs_name (tgs_cons tgs_name tgs_nil))))) (dss_cons (ds_par (i := 4) (j := 5) rfl nd rfl rfl (by decide) rfl rfl (de_lc rfl nd (by exact (di_seq (de_var (pv 0)))) (blkOk_by (own := [("p", 9), ("harmless", 10)]) (by kernel_rfl)) (fun _ _ _ _ _ => (pg_tup rfl (pgs_cons (pg_name (i := 9) nd rfl (Or.inl rfl)) (pgs_cons (pg_name (i := 10) nd rfl (Or.inl rfl)) pgs_nil)))) (tgs_tup (tgs_cons tgs_name (tgs_cons tgs_name tgs_nil))) rfl (fun _ _ _ _ _ _ => (dts_one (dt_not (dt_tru hK (de_bor (pv 10)) (fun _ => rfl))))) (fun _ _ _ _ _ _ => (de_call (Calls.of G__law_frame (hr.mono (by decide))) passE rfl T.g__law_frame T.F__law_frame.kp (b__law_frame T) (da_cons (de_var (pv 9)) da_nil)))) (fun _ => (de_lst da_nil)) rfl) (dss_cons (ds_if (dt_cmp (od_in hK hu) de_non (de_bor (pv 4)) (by with_unfolding_all rfl)) (dss_one (ds_ret (de_lst da_nil))) dss_nil) (dss_cons (ds_for ho rfl (di_range1 rfl T.n_range (de_op od_add (de_bor (pv 1)) de_int)) (pg_name (i := 6) nd rfl (Or.inr rfl)) tgs_name (dss_one (ds_for ho rfl (di_range1 rfl T.n_range (de_op od_add (de_bor (pv 2)) de_int)) (pg_name (i := 7) nd rfl (Or.inr rfl)) tgs_name (dss_one (ds_for ho rfl (di_range2 rfl T.n_range de_int (de_op od_add (de_bor (pv 3)) de_int)) (pg_name (i := 8) nd rfl (Or.inr rfl)) tgs_name (dss_one (ds_if (dt_w (dw_and (dt_cmp (od_eq hK hu4) (de_op od_mod (de_t1 cd_int rfl T.n_int bt_int (de_bor (pv 3))) (de_bor (pv 8))) de_int (nomark _)) (dw_and1 (dt_cmp (od_eq hK hu4) (de_lc rfl nd (by exact (di_seq (de_var (pv 4)))) (blkOk_by (own := [("h", 11)]) (by kernel_rfl)) (fun _ _ _ _ _ => (pg_name (i := 11) nd rfl (Or.inl rfl))) tgs_name rfl (fun _ _ _ _ _ _ => (dts_one (dt_w (dw_and (dt_cmp od_le (de_bor (pv 6)) (de_ix hK (de_bor (pv 11)) de_int) (nomark _)) (dw_and (dt_cmp od_le (de_bor (pv 7)) (de_ix hK (de_bor (pv 11)) de_int) (nomark _)) (dw_and1 (dt_cmp (od_eq hK hu4) (de_op od_mod (de_t1 cd_int rfl T.n_int bt_int (de_ix hK (de_bor (pv 11)) de_int)) (de_bor (pv 8))) de_int (nomark _)))))))) (fun _ _ _ _ _ _ => (de_var (pv 11)))) (de_lst da_nil) (nomark _))))) (dss_one (ds_app (ps_expr (pe_bm PySem.F.plainAttrs_list PySem.F.slot_list_append PySem.F.type_list_append mt_append (pv 5) (pa_cons (de_tup (da_cons (de_var (pv 6)) (da_cons (de_var (pv 7)) (da_cons (de_var (pv 8)) da_nil)))) pa_nil))))) dss_nil))))))) (dss_one (ds_ret (de_mov (pv 5))))))))
theorem ok__law_possible (T : Txt K mg) (hA : A.K = K) : FnOk P w K mg base (L2.CX P w) 4 T.A__law_possible T.D__law_possible ["told"] (spD A 1 F__law_possible) := by
  have G__law_bound := ok__law_bound (P := P) (w := w) (base := base) (A := A) T hA
  have G__law_frame := ok__law_frame (P := P) (w := w) (base := base) (A := A) T hA
  have G__law_left := ok__law_left (P := P) (w := w) (base := base) (A := A) T hA
  exact def_ok (k := 3) T.F__law_possible sc__law_possible rfl fun cdv Ar outer sh H Hb E hr => by
    have hK : K = A.K := hA.symm
    have nd := sc__law_possible.nd
    have hu : (Ar.deeper (envOfC "_law_possible" (defScope st__law_possible) sh.heap.objs.size T.A__law_possible cdv)).units + 65 < cLine := by have := hr.un; omega
    have hu4 : (Ar.deeper (envOfC "_law_possible" (defScope st__law_possible) sh.heap.objs.size T.A__law_possible cdv)).units + 64 < cLine := by omega
    have ho := passes_of (X := cxOf (L2.CX P w) P w K mg base ["told", "p", "harmless"] "_law_possible" (defScope st__law_possible) T.A__law_possible cdv Ar outer sh H E) rfl
    have hp : Passes (L2.CX P w) (cxOf (L2.CX P w) P w K mg base ["told", "p", "harmless"] "_law_possible" (defScope st__law_possible) T.A__law_possible cdv Ar outer sh H E) E := passes_call (takes_of rfl rfl rfl rfl) fun _ _ _ _ h => h
    exact (dss_cons (ds_if (dt_cmp (od_ne hK hu4) (de_lc rfl nd (by exact (di_seq (de_var (pv 0)))) (blkOk_by (own := [("p", 1), ("harmless", 2)]) (by kernel_rfl)) (fun _ _ _ _ _ => (pg_tup rfl (pgs_cons (pg_name (i := 1) nd rfl (Or.inl rfl)) (pgs_cons (pg_name (i := 2) nd rfl (Or.inl rfl)) pgs_nil)))) (tgs_tup (tgs_cons tgs_name (tgs_cons tgs_name tgs_nil))) rfl (fun _ _ _ _ _ _ => (dts_one (dt_w (dw_and (dt_not (dt_tru hK (de_bor (pv 2)) (fun _ => rfl))) (dw_and1 (dt_cmp od_isN (de_call (Calls.of G__law_frame (hr.mono (by decide))) passE rfl T.g__law_frame T.F__law_frame.kp (b__law_frame T) (da_cons (de_var (pv 1)) da_nil)) de_non (nomark _))))))) (fun _ _ _ _ _ _ => (de_var (pv 1)))) (de_lst da_nil) (nomark _)) (dss_one (ds_ret de_bl)) dss_nil) (dss_one (ds_ret (de_or (de_cmp od_isN (de_call (Calls.of G__law_bound (hr.mono (by decide))) hp rfl T.g__law_bound T.F__law_bound.kp (b__law_bound T) (da_cons (de_var (pv 0)) da_nil)) de_non (nomark _)) (de_one (de_cmp (od_ne hK hu4) (de_call (Calls.of G__law_left (hr.mono (by decide))) hp rfl T.g__law_left T.F__law_left.kp (b__law_left T) (da_cons (de_var (pv 0)) da_nil)) (de_lst da_nil) (nomark _)))))))
theorem ok__law_clashes (T : Txt K mg) (hA : A.K = K) : FnOk P w K mg base (L2.CX P w) 5 T.A__law_clashes T.D__law_clashes ["told", "value"] (spD A 2 F__law_clashes) := by
  have G__law_possible := ok__law_possible (P := P) (w := w) (base := base) (A := A) T hA
  exact def_ok (k := 4) T.F__law_clashes sc__law_clashes rfl fun cdv Ar outer sh H Hb E hr => by
    have hK : K = A.K := hA.symm
    have nd := sc__law_clashes.nd
    have hu : (Ar.deeper (envOfC "_law_clashes" (defScope st__law_clashes) sh.heap.objs.size T.A__law_clashes cdv)).units + 65 < cLine := by have := hr.un; omega
    have hu4 : (Ar.deeper (envOfC "_law_clashes" (defScope st__law_clashes) sh.heap.objs.size T.A__law_clashes cdv)).units + 64 < cLine := by omega
    have ho := passes_of (X := cxOf (L2.CX P w) P w K mg base ["told", "value", "one", "at"] "_law_clashes" (defScope st__law_clashes) T.A__law_clashes cdv Ar outer sh H E) rfl
    have hp : Passes (L2.CX P w) (cxOf (L2.CX P w) P w K mg base ["told", "value", "one", "at"] "_law_clashes" (defScope st__law_clashes) T.A__law_clashes cdv Ar outer sh H E) E := passes_call (takes_of rfl rfl rfl rfl) fun _ _ _ _ h => h
    exact (dss_cons (ds_if (dt_w (dw_or (dt_not (dt_tru hK (de_isi1 (t := .tuple) (u := .none) rfl T.n_isinstance rfl T.n_tuple bt_tuple (de_bor (pv 1))) (fun _ => rfl))) (dw_or1 (dt_cmp (od_ne hK hu4) (de_lc rfl nd (by exact (di_seq (de_var (pv 1)))) (blkOk_by (own := [("one", 2)]) (by kernel_rfl)) (fun _ _ _ _ _ => (pg_name (i := 2) nd rfl (Or.inl rfl))) tgs_name rfl (fun _ _ _ _ _ _ => (dts_one (dt_w (dw_or (dt_not (dt_tru hK (de_isi1 (t := .int) (u := .none) rfl T.n_isinstance rfl T.n_int bt_int (de_bor (pv 2))) (fun _ => rfl))) (dw_or1 (dt_tru hK (de_isi1 (t := .bool) (u := .none) rfl T.n_isinstance rfl T.n_bool bt_bool (de_bor (pv 2))) (fun _ => rfl))))))) (fun _ _ _ _ _ _ => (de_var (pv 2)))) (de_lst da_nil) (nomark _))))) (dss_one (ds_ret de_bl)) dss_nil) (dss_cons (ds_if (dt_w (dw_or (dt_cmp (od_ne hK hu4) (de_t1 cd_list rfl T.n_list bt_list (de_bor (pv 1))) (de_sortSet rfl rfl T.n_sorted bt_sorted rfl T.n_set bt_set (de_bor (pv 1))) (nomark _)) (dw_or1 (dt_cmp (od_ne hK hu4) (de_lc rfl nd (by exact (di_seq (de_var (pv 1)))) (blkOk_by (own := [("one", 2)]) (by kernel_rfl)) (fun _ _ _ _ _ => (pg_name (i := 2) nd rfl (Or.inl rfl))) tgs_name rfl (fun _ _ _ _ _ _ => (dts_one (dt_not (dt_chain od_le od_lt de_int (de_bor (pv 2)) (de_b1 cd_len rfl T.n_len bt_len (de_bor (pv 0))))))) (fun _ _ _ _ _ _ => (de_var (pv 2)))) (de_lst da_nil) (nomark _))))) (dss_one (ds_ret de_bl)) dss_nil) (dss_cons (ds_if (dt_tru hK (de_call (Calls.of G__law_possible (hr.mono (by decide))) hp rfl T.g__law_possible T.F__law_possible.kp (b__law_possible T) (da_cons (de_lc rfl nd (by exact (di_seq (de_var (pv 1)))) (blkOk_by (own := [("one", 2)]) (by kernel_rfl)) (fun _ _ _ _ _ => (pg_name (i := 2) nd rfl (Or.inl rfl))) tgs_name rfl (fun _ _ _ _ _ _ => dts_nil) (fun _ _ _ _ _ _ => (de_ix hK (de_bor (pv 0)) (de_bor (pv 2))))) da_nil)) (fun _ => rfl)) (dss_one (ds_ret de_bl)) dss_nil) (dss_one (ds_ret (de_cmp (od_eq hK hu4) (de_lc rfl nd (by exact (di_seq (de_var (pv 1)))) (blkOk_by (own := [("at", 3)]) (by kernel_rfl)) (fun _ _ _ _ _ => (pg_name (i := 3) nd rfl (Or.inr rfl))) tgs_name rfl (fun _ _ _ _ _ _ => (dts_one (dt_not (dt_tru hK (de_call (Calls.of G__law_possible (hr.mono (by decide))) passE rfl T.g__law_possible T.F__law_possible.kp (b__law_possible T) (da_cons (de_lc rfl nd (by exact (di_seq (de_var (pv 1)))) (blkOk_by (own := [("one", 2)]) (by kernel_rfl)) (fun _ _ _ _ _ => (pg_name (i := 2) nd rfl (Or.inl rfl))) tgs_name rfl (fun _ _ _ _ _ _ => (dts_one (dt_cmp (od_ne hK hu4) (de_bor (pv 2)) (de_bor (pv 3)) (nomark _)))) (fun _ _ _ _ _ _ => (de_ix hK (de_bor (pv 0)) (de_bor (pv 2))))) da_nil)) (fun _ => rfl))))) (fun _ _ _ _ _ _ => (de_var (pv 3)))) (de_lst da_nil) (nomark _)))))))
theorem ok__law_near_value (T : Txt K mg) (hA : A.K = K) : FnOk P w K mg base (L2.CX P w) 3 T.A__law_near_value T.D__law_near_value ["deal", "value", "many"] (spD A 3 F__law_near_value) := by
  have G__law_any := ok__law_any (P := P) (w := w) (base := base) (A := A) T hA
  have G__law_of := ok__law_of (P := P) (w := w) (base := base) (A := A) T hA
  exact def_ok (k := 2) T.F__law_near_value sc__law_near_value rfl fun cdv Ar outer sh H Hb E hr => by
    have hK : K = A.K := hA.symm
    have nd := sc__law_near_value.nd
    have hu : (Ar.deeper (envOfC "_law_near_value" (defScope st__law_near_value) sh.heap.objs.size T.A__law_near_value cdv)).units + 65 < cLine := by have := hr.un; omega
    have hu4 : (Ar.deeper (envOfC "_law_near_value" (defScope st__law_near_value) sh.heap.objs.size T.A__law_near_value cdv)).units + 64 < cLine := by omega
    have ho := passes_of (X := cxOf (L2.CX P w) P w K mg base ["deal", "value", "many", "row", "at", "spot", "some"] "_law_near_value" (defScope st__law_near_value) T.A__law_near_value cdv Ar outer sh H E) rfl
    have hp : Passes (L2.CX P w) (cxOf (L2.CX P w) P w K mg base ["deal", "value", "many", "row", "at", "spot", "some"] "_law_near_value" (defScope st__law_near_value) T.A__law_near_value cdv Ar outer sh H E) E := passes_call (takes_of rfl rfl rfl rfl) fun _ _ _ _ h => h
    exact (dss_cons (ds_set (ps_set (i := 3) nd rfl (Or.inl rfl) (de_if (dt_cmp od_notN (de_bor (pv 1)) de_non (nomark _)) (de_var (pv 1)) (de_tup (da_cons de_int da_nil))))) (dss_cons (ds_par (i := 4) (j := 5) rfl nd rfl rfl (by decide) rfl rfl (de_call (Calls.of G__law_any (hr.mono (by decide))) hp rfl T.g__law_any T.F__law_any.kp (b__law_any T) (da_cons (de_var (pv 0)) (da_cons (de_b1 cd_len rfl T.n_len bt_len (de_bor (pv 3))) da_nil))) (fun _ => (de_call (Calls.of G__law_any (hr.mono (by decide))) hp rfl T.g__law_any T.F__law_any.kp (b__law_any T) (da_cons (de_var (pv 0)) (da_cons (de_op od_add (de_bor (pv 2)) de_int) da_nil)))) rfl) (dss_cons (ds_set (ps_set (i := 6) nd rfl (Or.inl rfl) (de_lst (da_cons (de_var (pv 1)) (da_cons (de_op od_add (de_sl hK (de_bor (pv 3)) do_none (do_some (de_bor (pv 4)))) (de_sl hK (de_bor (pv 3)) (do_some (de_op od_add (de_bor (pv 4)) de_int)) do_none)) (da_cons (de_t1 cd_tuple rfl T.n_tuple bt_tuple (de_b1 cd_sortedA rfl T.n_sorted bt_sorted (de_op od_add (de_bor (pv 3)) (de_tup (da_cons (de_var (pv 5)) da_nil))))) (da_cons (de_op od_add (de_bor (pv 3)) (de_tup (da_cons (de_var (pv 5)) da_nil))) (da_cons (de_rev hK (de_bor (pv 3))) (da_cons (de_t1 cd_list rfl T.n_list bt_list (de_bor (pv 3))) (da_cons de_non (da_cons (de_tup da_nil) da_nil))))))))))) (dss_one (ds_ret (de_call (Calls.of G__law_of (hr.mono (by decide))) hp rfl T.g__law_of T.F__law_of.kp (b__law_of T) (da_cons (de_var (pv 0)) (da_cons (de_op od_add (de_bor (pv 6)) (de_lst (da_cons (de_op od_add (de_op od_add (de_sl hK (de_bor (pv 3)) do_none (do_some (de_bor (pv 4)))) (de_tup (da_cons (de_var (pv 5)) da_nil))) (de_sl hK (de_bor (pv 3)) (do_some (de_op od_add (de_bor (pv 4)) de_int)) do_none)) (da_cons (de_tupRg rfl rfl T.n_tuple rfl T.n_range (de_bor (pv 2))) (da_cons (de_op od_add (de_bor (pv 3)) (de_tup (da_cons de_bl da_nil))) (da_cons (de_op od_add (de_tup (da_cons (de_op od_sub de_int de_int) da_nil)) (de_bor (pv 3))) da_nil)))))) da_nil))))))))
theorem ok_law (T : Txt K mg) (hf : ∀ ns : List Int, ∃ W', f_law (lawC 8 (drawW ns 50)) = .ret false (.bl true) W') : FnOk P w K mg base (L2.CX P w) 10 T.A_law T.D_law ["script"] (spLaw K) := by
  have G__law_draw := ok__law_draw (P := P) (w := w) (base := base) T
  refine T.F_law.okX (k := 9) sc_law (fun vs H Q E h => ?_) fun cdv Ar outer sh H vs Q E hr h => ⟨tSeq (t_lawDraw K E 50) (rdSx K E f_law), ?_, pure_law (m := 8) h rfl (by decide) (by decide) hf⟩
  · obtain ⟨a, ns, rfl, _⟩ := h
    rfl
  · have nd := sc_law.nd
    have hu : (Ar.deeper (envOfC "law" (defScope st_law) sh.heap.objs.size T.A_law cdv)).units + 65 < cLine := by have := hr.un; omega
    have hu4 : (Ar.deeper (envOfC "law" (defScope st_law) sh.heap.objs.size T.A_law cdv)).units + 64 < cLine := by omega
    have ho := passes_of (X := cxOf (L2.CX P w) P w K mg base ["script", "deal", "turn", "hidden", "told", "due", "value", "most", "more", "other"] "law" (defScope st_law) T.A_law cdv Ar outer sh H E) rfl
    have hp : Passes (L2.CX P w) (cxOf (L2.CX P w) P w K mg base ["script", "deal", "turn", "hidden", "told", "due", "value", "most", "more", "other"] "law" (defScope st_law) T.A_law cdv Ar outer sh H E) E := passes_call (takes_of rfl rfl rfl rfl) fun _ _ _ _ h => h
    refine pss_cons (ps_set (i := 1) nd rfl (Or.inl rfl) (pe_callC (Calls.of G__law_draw (hr.mono (by decide))) hp rfl T.g__law_draw T.F__law_draw.kp (b__law_draw T) (pa_cons (pv 0) (pa_cons pe_int pa_nil)))) (pssx fun A B hA => ?_)
    have hK : K = A.K := hA.symm
    have G__law_any := ok__law_any (P := P) (w := w) (base := base) (A := A) T hA
    have G__law_clashes := ok__law_clashes (P := P) (w := w) (base := base) (A := A) T hA
    have G__law_findings := ok__law_findings (P := P) (w := w) (base := base) (A := A) T hA
    have G__law_hidden := ok__law_hidden (P := P) (w := w) (base := base) (A := A) T hA
    have G__law_mixed := ok__law_mixed (P := P) (w := w) (base := base) (A := A) T hA
    have G__law_near_value := ok__law_near_value (P := P) (w := w) (base := base) (A := A) T hA
    have G__law_possible := ok__law_possible (P := P) (w := w) (base := base) (A := A) T hA
    have G_agrees := ok_agrees (P := P) (w := w) (base := base) (A := A) T hA
    have G_clash := ok_clash (P := P) (w := w) (base := base) (A := A) T hA
    have G_is_clash := ok_is_clash (P := P) (w := w) (base := base) (A := A) T hA
    have G_widest := ok_widest (P := P) (w := w) (base := base) (A := A) T hA
    exact (dss_cons (ds_for ho rfl (di_range1 rfl T.n_range de_int) (pg_name (i := 2) nd rfl (Or.inl rfl)) tgs_name (dss_cons (ds_set (ps_set (i := 3) nd rfl (Or.inl rfl) (de_call (Calls.of G__law_hidden (hr.mono (by decide))) hp rfl T.g__law_hidden T.F__law_hidden.kp (b__law_hidden T) (da_cons (de_var (pv 1)) da_nil)))) (dss_cons (ds_set (ps_set (i := 4) nd rfl (Or.inl rfl) (de_call (Calls.of G__law_findings (hr.mono (by decide))) hp rfl T.g__law_findings T.F__law_findings.kp (b__law_findings T) (da_cons (de_var (pv 1)) (da_cons (de_var (pv 3)) (da_cons (de_call (Calls.of G__law_any (hr.mono (by decide))) hp rfl T.g__law_any T.F__law_any.kp (b__law_any T) (da_cons (de_var (pv 1)) (da_cons de_int da_nil))) (da_cons de_bl da_nil))))))) (dss_cons (ds_if (dt_cmp (od_eq hK hu4) (de_call (Calls.of G__law_any (hr.mono (by decide))) hp rfl T.g__law_any T.F__law_any.kp (b__law_any T) (da_cons (de_var (pv 1)) (da_cons de_int da_nil))) de_int (nomark _)) (dss_one (ds_set (ps_set (i := 4) nd rfl (Or.inl rfl) (de_call (Calls.of G__law_mixed (hr.mono (by decide))) hp rfl T.g__law_mixed T.F__law_mixed.kp (b__law_mixed T) (da_cons (de_var (pv 1)) (da_cons (de_t1 cd_list rfl T.n_list bt_list (de_op od_add (de_bor (pv 4)) (de_call (Calls.of G__law_findings (hr.mono (by decide))) hp rfl T.g__law_findings T.F__law_findings.kp (b__law_findings T) (da_cons (de_var (pv 1)) (da_cons (de_call (Calls.of G__law_hidden (hr.mono (by decide))) hp rfl T.g__law_hidden T.F__law_hidden.kp (b__law_hidden T) (da_cons (de_var (pv 1)) da_nil)) (da_cons (de_op od_add de_int (de_call (Calls.of G__law_any (hr.mono (by decide))) hp rfl T.g__law_any T.F__law_any.kp (b__law_any T) (da_cons (de_var (pv 1)) (da_cons de_int da_nil)))) (da_cons de_bl da_nil))))))) da_nil)))))) dss_nil) (dss_cons (ds_set (ps_set (i := 4) nd rfl (Or.inl rfl) (de_t1 cd_tuple rfl T.n_tuple bt_tuple (de_bor (pv 4))))) (dss_cons (ds_set (ps_set (i := 5) nd rfl (Or.inl rfl) (de_call (Calls.of G__law_possible (hr.mono (by decide))) hp rfl T.g__law_possible T.F__law_possible.kp (b__law_possible T) (da_cons (de_var (pv 4)) da_nil)))) (dss_cons (ds_par (i := 6) (j := 7) rfl nd rfl rfl (by decide) rfl rfl (de_callK0 (Calls.of G_clash (hr.mono (by decide))) hp rfl T.g_clash T.F_clash.kp (kw_of T.F_clash (ks := ["told"]) (n1 := 0) (n2 := 1) (π := [0]) fun _ _ _ _ _ _ us ws h1 h2 => match us, ws, h1, h2 with | [], [_], _, _ => rfl) (dk_cons (de_t1 cd_list rfl T.n_list bt_list (de_bor (pv 4))) dk_nil)) (fun _ => (de_call (Calls.of G_widest (hr.mono (by decide))) hp rfl T.g_widest T.F_widest.kp (b_widest T) (da_cons (de_var (pv 4)) da_nil))) rfl) (dss_cons (ds_if (dt_w (dw_or (dt_cmp (od_ne hK hu4) (de_cmp od_isN (de_bor (pv 6)) de_non (nomark _)) (de_bor (pv 5)) (nomark _)) (dw_or1 (dt_cmp (od_ne hK hu4) (de_b1 cd_rep0 rfl T.n_repr bt_repr (de_call (Calls.of G_agrees (hr.mono (by decide))) hp rfl T.g_agrees T.F_agrees.kp (b_agrees T) (da_cons (de_var (pv 7)) (da_cons (de_var (pv 4)) da_nil)))) (de_b1 cd_rep0 rfl T.n_repr bt_repr (de_bor (pv 5))) (nomark _))))) (dss_one (ds_ret de_bl)) dss_nil) (dss_cons (ds_if (dt_w (dw_and (dt_cmp od_notN (de_bor (pv 6)) de_non (nomark _)) (dw_and1 (dt_not (dt_tru hK (de_call (Calls.of G__law_clashes (hr.mono (by decide))) hp rfl T.g__law_clashes T.F__law_clashes.kp (b__law_clashes T) (da_cons (de_var (pv 4)) (da_cons (de_var (pv 6)) da_nil))) (fun _ => rfl)))))) (dss_one (ds_ret de_bl)) dss_nil) (dss_one (ds_for ho rfl (di_range1 rfl T.n_range de_int) (pg_name (i := 8) nd rfl (Or.inl rfl)) tgs_name (dss_cons (ds_set (ps_set (i := 9) nd rfl (Or.inl rfl) (de_call (Calls.of G__law_near_value (hr.mono (by decide))) hp rfl T.g__law_near_value T.F__law_near_value.kp (b__law_near_value T) (da_cons (de_var (pv 1)) (da_cons (de_var (pv 6)) (da_cons (de_b1 cd_len rfl T.n_len bt_len (de_bor (pv 4))) da_nil)))))) (dss_one (ds_if (dt_cmp (od_ne hK hu4) (de_b1 cd_rep0 rfl T.n_repr bt_repr (de_callK0 (Calls.of G_is_clash (hr.mono (by decide))) hp rfl T.g_is_clash T.F_is_clash.kp (kw_of T.F_is_clash (ks := ["value", "told"]) (n1 := 0) (n2 := 2) (π := [1, 0]) fun _ _ _ _ _ _ us ws h1 h2 => match us, ws, h1, h2 with | [], [_, _], _, _ => rfl) (dk_cons (de_var (pv 9)) (dk_cons (de_var (pv 4)) dk_nil)))) (de_b1 cd_rep0 rfl T.n_repr bt_repr (de_call (Calls.of G__law_clashes (hr.mono (by decide))) hp rfl T.g__law_clashes T.F__law_clashes.kp (b__law_clashes T) (da_cons (de_var (pv 4)) (da_cons (de_var (pv 9)) da_nil)))) (nomark _)) (dss_one (ds_ret de_bl)) dss_nil)))))))))))))) (dss_one (ds_ret (de_and (de_cmp od_isB (de_call (Calls.of G_is_clash (hr.mono (by decide))) hp rfl T.g_is_clash T.F_is_clash.kp (b_is_clash T) (da_cons (de_lst (da_cons (de_tup (da_cons (de_tup (da_cons de_int (da_cons de_int da_nil))) (da_cons de_bl da_nil))) da_nil)) (da_cons (de_tup (da_cons de_int da_nil)) da_nil))) de_bl (nomark _)) (de_one (de_cmp od_isN (de_call (Calls.of G_clash (hr.mono (by decide))) hp rfl T.g_clash T.F_clash.kp (b_clash T) (da_cons (de_lst (da_cons (de_tup (da_cons (de_tup (da_cons de_int (da_cons de_int da_nil))) (da_cons de_bl da_nil))) (da_cons (de_tup (da_cons (de_tup (da_cons de_int da_nil)) (da_cons de_bl da_nil))) da_nil))) da_nil)) de_non (nomark _)))))))
theorem all_mk {h : Heap} {fa : Addr} (X : K.In h) (G : h.Ns mainGlobals mg) (hfa : mg "law" = some (.ref fa)) (hf : ∀ ns : List Int, ∃ W', f_law (lawC 8 (drawW ns 50)) = .ret false (.bl true) W')
    {f0 : Addr} {od0 an0 : Option Addr} {sl0 : Array (Option Value)} {oc0 kV0 dc0 pm0 cd0 ct0 : Value}
    (a0 : PySem.W.nsIn K mainGlobals "is_integer" = some (some (.ref f0))) (l0 : K.lookup f0 = some ⟨oc0, od0, .func (PySem.W.fnOf "is_integer" "is_integer" (defArgs st_is_integer) (defBody st_is_integer) (defScope st_is_integer) .none kV0 dc0 pm0 an0 cd0 ct0), sl0⟩) (c0 : PySem.W.codeIn K cd0 "is_integer" = true) (k0 : PySem.W.keepIn K (.ref f0) = true)
    {f1 : Addr} {od1 an1 : Option Addr} {sl1 : Array (Option Value)} {oc1 kV1 dc1 pm1 cd1 ct1 : Value}
    (a1 : PySem.W.nsIn K mainGlobals "is_number" = some (some (.ref f1))) (l1 : K.lookup f1 = some ⟨oc1, od1, .func (PySem.W.fnOf "is_number" "is_number" (defArgs st_is_number) (defBody st_is_number) (defScope st_is_number) .none kV1 dc1 pm1 an1 cd1 ct1), sl1⟩) (c1 : PySem.W.codeIn K cd1 "is_number" = true) (k1 : PySem.W.keepIn K (.ref f1) = true)
    {f2 : Addr} {od2 an2 : Option Addr} {sl2 : Array (Option Value)} {oc2 kV2 dc2 pm2 cd2 ct2 : Value}
    (a2 : PySem.W.nsIn K mainGlobals "is_sequence" = some (some (.ref f2))) (l2 : K.lookup f2 = some ⟨oc2, od2, .func (PySem.W.fnOf "is_sequence" "is_sequence" (defArgs st_is_sequence) (defBody st_is_sequence) (defScope st_is_sequence) .none kV2 dc2 pm2 an2 cd2 ct2), sl2⟩) (c2 : PySem.W.codeIn K cd2 "is_sequence" = true) (k2 : PySem.W.keepIn K (.ref f2) = true)
    {f3 : Addr} {od3 an3 : Option Addr} {sl3 : Array (Option Value)} {oc3 kV3 dc3 pm3 cd3 ct3 : Value}
    (a3 : PySem.W.nsIn K mainGlobals "is_index" = some (some (.ref f3))) (l3 : K.lookup f3 = some ⟨oc3, od3, .func (PySem.W.fnOf "is_index" "is_index" (defArgs st_is_index) (defBody st_is_index) (defScope st_is_index) .none kV3 dc3 pm3 an3 cd3 ct3), sl3⟩) (c3 : PySem.W.codeIn K cd3 "is_index" = true) (k3 : PySem.W.keepIn K (.ref f3) = true)
    {f4 : Addr} {od4 an4 : Option Addr} {sl4 : Array (Option Value)} {oc4 kV4 dc4 pm4 cd4 ct4 : Value}
    (a4 : PySem.W.nsIn K mainGlobals "divisor" = some (some (.ref f4))) (l4 : K.lookup f4 = some ⟨oc4, od4, .func (PySem.W.fnOf "divisor" "divisor" (defArgs st_divisor) (defBody st_divisor) (defScope st_divisor) .none kV4 dc4 pm4 an4 cd4 ct4), sl4⟩) (c4 : PySem.W.codeIn K cd4 "divisor" = true) (k4 : PySem.W.keepIn K (.ref f4) = true)
    {f5 : Addr} {od5 an5 : Option Addr} {sl5 : Array (Option Value)} {oc5 kV5 dc5 pm5 cd5 ct5 : Value}
    (a5 : PySem.W.nsIn K mainGlobals "fault" = some (some (.ref f5))) (l5 : K.lookup f5 = some ⟨oc5, od5, .func (PySem.W.fnOf "fault" "fault" (defArgs st_fault) (defBody st_fault) (defScope st_fault) .none kV5 dc5 pm5 an5 cd5 ct5), sl5⟩) (c5 : PySem.W.codeIn K cd5 "fault" = true) (k5 : PySem.W.keepIn K (.ref f5) = true)
    {f6 : Addr} {od6 an6 : Option Addr} {sl6 : Array (Option Value)} {oc6 kV6 dc6 pm6 cd6 ct6 : Value}
    (a6 : PySem.W.nsIn K mainGlobals "checked_reordering" = some (some (.ref f6))) (l6 : K.lookup f6 = some ⟨oc6, od6, .func (PySem.W.fnOf "checked_reordering" "checked_reordering" (defArgs st_checked_reordering) (defBody st_checked_reordering) (defScope st_checked_reordering) .none kV6 dc6 pm6 an6 cd6 ct6), sl6⟩) (c6 : PySem.W.codeIn K cd6 "checked_reordering" = true) (k6 : PySem.W.keepIn K (.ref f6) = true)
    {f7 : Addr} {od7 an7 : Option Addr} {sl7 : Array (Option Value)} {oc7 kV7 dc7 pm7 cd7 ct7 : Value}
    (a7 : PySem.W.nsIn K mainGlobals "frame" = some (some (.ref f7))) (l7 : K.lookup f7 = some ⟨oc7, od7, .func (PySem.W.fnOf "frame" "frame" (defArgs st_frame) (defBody st_frame) (defScope st_frame) .none kV7 dc7 pm7 an7 cd7 ct7), sl7⟩) (c7 : PySem.W.codeIn K cd7 "frame" = true) (k7 : PySem.W.keepIn K (.ref f7) = true)
    {f8 : Addr} {od8 an8 : Option Addr} {sl8 : Array (Option Value)} {oc8 kV8 dc8 pm8 cd8 ct8 : Value}
    (a8 : PySem.W.nsIn K mainGlobals "is_allowed" = some (some (.ref f8))) (l8 : K.lookup f8 = some ⟨oc8, od8, .func (PySem.W.fnOf "is_allowed" "is_allowed" (defArgs st_is_allowed) (defBody st_is_allowed) (defScope st_is_allowed) .none kV8 dc8 pm8 an8 cd8 ct8), sl8⟩) (c8 : PySem.W.codeIn K cd8 "is_allowed" = true) (k8 : PySem.W.keepIn K (.ref f8) = true)
    {f9 : Addr} {od9 an9 : Option Addr} {sl9 : Array (Option Value)} {oc9 kV9 dc9 pm9 cd9 ct9 : Value}
    (a9 : PySem.W.nsIn K mainGlobals "triple_fault" = some (some (.ref f9))) (l9 : K.lookup f9 = some ⟨oc9, od9, .func (PySem.W.fnOf "triple_fault" "triple_fault" (defArgs st_triple_fault) (defBody st_triple_fault) (defScope st_triple_fault) .none kV9 dc9 pm9 an9 cd9 ct9), sl9⟩) (c9 : PySem.W.codeIn K cd9 "triple_fault" = true) (k9 : PySem.W.keepIn K (.ref f9) = true)
    {f10 : Addr} {od10 an10 : Option Addr} {sl10 : Array (Option Value)} {oc10 kV10 dc10 pm10 cd10 ct10 : Value}
    (a10 : PySem.W.nsIn K mainGlobals "checked_triple" = some (some (.ref f10))) (l10 : K.lookup f10 = some ⟨oc10, od10, .func (PySem.W.fnOf "checked_triple" "checked_triple" (defArgs st_checked_triple) (defBody st_checked_triple) (defScope st_checked_triple) .none kV10 dc10 pm10 an10 cd10 ct10), sl10⟩) (c10 : PySem.W.codeIn K cd10 "checked_triple" = true) (k10 : PySem.W.keepIn K (.ref f10) = true)
    {f11 : Addr} {od11 an11 : Option Addr} {sl11 : Array (Option Value)} {oc11 kV11 dc11 pm11 cd11 ct11 : Value}
    (a11 : PySem.W.nsIn K mainGlobals "is_finding" = some (some (.ref f11))) (l11 : K.lookup f11 = some ⟨oc11, od11, .func (PySem.W.fnOf "is_finding" "is_finding" (defArgs st_is_finding) (defBody st_is_finding) (defScope st_is_finding) .none kV11 dc11 pm11 an11 cd11 ct11), sl11⟩) (c11 : PySem.W.codeIn K cd11 "is_finding" = true) (k11 : PySem.W.keepIn K (.ref f11) = true)
    {f12 : Addr} {od12 an12 : Option Addr} {sl12 : Array (Option Value)} {oc12 kV12 dc12 pm12 cd12 ct12 : Value}
    (a12 : PySem.W.nsIn K mainGlobals "checked_findings" = some (some (.ref f12))) (l12 : K.lookup f12 = some ⟨oc12, od12, .func (PySem.W.fnOf "checked_findings" "checked_findings" (defArgs st_checked_findings) (defBody st_checked_findings) (defScope st_checked_findings) .none kV12 dc12 pm12 an12 cd12 ct12), sl12⟩) (c12 : PySem.W.codeIn K cd12 "checked_findings" = true) (k12 : PySem.W.keepIn K (.ref f12) = true)
    {f13 : Addr} {od13 an13 : Option Addr} {sl13 : Array (Option Value)} {oc13 kV13 dc13 pm13 cd13 ct13 : Value}
    (a13 : PySem.W.nsIn K mainGlobals "agrees_with" = some (some (.ref f13))) (l13 : K.lookup f13 = some ⟨oc13, od13, .func (PySem.W.fnOf "agrees_with" "agrees_with" (defArgs st_agrees_with) (defBody st_agrees_with) (defScope st_agrees_with) .none kV13 dc13 pm13 an13 cd13 ct13), sl13⟩) (c13 : PySem.W.codeIn K cd13 "agrees_with" = true) (k13 : PySem.W.keepIn K (.ref f13) = true)
    {f14 : Addr} {od14 an14 : Option Addr} {sl14 : Array (Option Value)} {oc14 kV14 dc14 pm14 cd14 ct14 : Value}
    (a14 : PySem.W.nsIn K mainGlobals "agrees" = some (some (.ref f14))) (l14 : K.lookup f14 = some ⟨oc14, od14, .func (PySem.W.fnOf "agrees" "agrees" (defArgs st_agrees) (defBody st_agrees) (defScope st_agrees) .none kV14 dc14 pm14 an14 cd14 ct14), sl14⟩) (c14 : PySem.W.codeIn K cd14 "agrees" = true) (k14 : PySem.W.keepIn K (.ref f14) = true)
    {f15 : Addr} {od15 an15 : Option Addr} {sl15 : Array (Option Value)} {oc15 kV15 dc15 pm15 cd15 ct15 : Value}
    (a15 : PySem.W.nsIn K mainGlobals "widest_of" = some (some (.ref f15))) (l15 : K.lookup f15 = some ⟨oc15, od15, .func (PySem.W.fnOf "widest_of" "widest_of" (defArgs st_widest_of) (defBody st_widest_of) (defScope st_widest_of) .none kV15 dc15 pm15 an15 cd15 ct15), sl15⟩) (c15 : PySem.W.codeIn K cd15 "widest_of" = true) (k15 : PySem.W.keepIn K (.ref f15) = true)
    {f16 : Addr} {od16 an16 : Option Addr} {sl16 : Array (Option Value)} {oc16 kV16 dc16 pm16 cd16 ct16 : Value}
    (a16 : PySem.W.nsIn K mainGlobals "widest" = some (some (.ref f16))) (l16 : K.lookup f16 = some ⟨oc16, od16, .func (PySem.W.fnOf "widest" "widest" (defArgs st_widest) (defBody st_widest) (defScope st_widest) .none kV16 dc16 pm16 an16 cd16 ct16), sl16⟩) (c16 : PySem.W.codeIn K cd16 "widest" = true) (k16 : PySem.W.keepIn K (.ref f16) = true)
    {f17 : Addr} {od17 an17 : Option Addr} {sl17 : Array (Option Value)} {oc17 kV17 dc17 pm17 cd17 ct17 : Value}
    (a17 : PySem.W.nsIn K mainGlobals "is_possible" = some (some (.ref f17))) (l17 : K.lookup f17 = some ⟨oc17, od17, .func (PySem.W.fnOf "is_possible" "is_possible" (defArgs st_is_possible) (defBody st_is_possible) (defScope st_is_possible) .none kV17 dc17 pm17 an17 cd17 ct17), sl17⟩) (c17 : PySem.W.codeIn K cd17 "is_possible" = true) (k17 : PySem.W.keepIn K (.ref f17) = true)
    {f18 : Addr} {od18 an18 : Option Addr} {sl18 : Array (Option Value)} {oc18 kV18 dc18 pm18 cd18 ct18 : Value}
    (a18 : PySem.W.nsIn K mainGlobals "clash" = some (some (.ref f18))) (l18 : K.lookup f18 = some ⟨oc18, od18, .func (PySem.W.fnOf "clash" "clash" (defArgs st_clash) (defBody st_clash) (defScope st_clash) .none kV18 dc18 pm18 an18 cd18 ct18), sl18⟩) (c18 : PySem.W.codeIn K cd18 "clash" = true) (k18 : PySem.W.keepIn K (.ref f18) = true)
    {f19 : Addr} {od19 an19 : Option Addr} {sl19 : Array (Option Value)} {oc19 kV19 dc19 pm19 cd19 ct19 : Value}
    (a19 : PySem.W.nsIn K mainGlobals "is_clash" = some (some (.ref f19))) (l19 : K.lookup f19 = some ⟨oc19, od19, .func (PySem.W.fnOf "is_clash" "is_clash" (defArgs st_is_clash) (defBody st_is_clash) (defScope st_is_clash) .none kV19 dc19 pm19 an19 cd19 ct19), sl19⟩) (c19 : PySem.W.codeIn K cd19 "is_clash" = true) (k19 : PySem.W.keepIn K (.ref f19) = true)
    {f20 : Addr} {od20 an20 : Option Addr} {sl20 : Array (Option Value)} {oc20 kV20 dc20 pm20 cd20 ct20 : Value}
    (a20 : PySem.W.nsIn K mainGlobals "_law_draw" = some (some (.ref f20))) (l20 : K.lookup f20 = some ⟨oc20, od20, .func (PySem.W.fnOf "_law_draw" "_law_draw" (defArgs st__law_draw) (defBody st__law_draw) (defScope st__law_draw) .none kV20 dc20 pm20 an20 cd20 ct20), sl20⟩) (c20 : PySem.W.codeIn K cd20 "_law_draw" = true) (k20 : PySem.W.keepIn K (.ref f20) = true)
    {f21 : Addr} {od21 an21 : Option Addr} {sl21 : Array (Option Value)} {oc21 kV21 dc21 pm21 cd21 ct21 : Value}
    (a21 : PySem.W.nsIn K mainGlobals "_law_any" = some (some (.ref f21))) (l21 : K.lookup f21 = some ⟨oc21, od21, .func (PySem.W.fnOf "_law_any" "_law_any" (defArgs st__law_any) (defBody st__law_any) (defScope st__law_any) .none kV21 dc21 pm21 an21 cd21 ct21), sl21⟩) (c21 : PySem.W.codeIn K cd21 "_law_any" = true) (k21 : PySem.W.keepIn K (.ref f21) = true)
    {f22 : Addr} {od22 an22 : Option Addr} {sl22 : Array (Option Value)} {oc22 kV22 dc22 pm22 cd22 ct22 : Value}
    (a22 : PySem.W.nsIn K mainGlobals "_law_of" = some (some (.ref f22))) (l22 : K.lookup f22 = some ⟨oc22, od22, .func (PySem.W.fnOf "_law_of" "_law_of" (defArgs st__law_of) (defBody st__law_of) (defScope st__law_of) .none kV22 dc22 pm22 an22 cd22 ct22), sl22⟩) (c22 : PySem.W.codeIn K cd22 "_law_of" = true) (k22 : PySem.W.keepIn K (.ref f22) = true)
    {f23 : Addr} {od23 an23 : Option Addr} {sl23 : Array (Option Value)} {oc23 kV23 dc23 pm23 cd23 ct23 : Value}
    (a23 : PySem.W.nsIn K mainGlobals "_law_mixed" = some (some (.ref f23))) (l23 : K.lookup f23 = some ⟨oc23, od23, .func (PySem.W.fnOf "_law_mixed" "_law_mixed" (defArgs st__law_mixed) (defBody st__law_mixed) (defScope st__law_mixed) .none kV23 dc23 pm23 an23 cd23 ct23), sl23⟩) (c23 : PySem.W.codeIn K cd23 "_law_mixed" = true) (k23 : PySem.W.keepIn K (.ref f23) = true)
    {f24 : Addr} {od24 an24 : Option Addr} {sl24 : Array (Option Value)} {oc24 kV24 dc24 pm24 cd24 ct24 : Value}
    (a24 : PySem.W.nsIn K mainGlobals "_law_reordering" = some (some (.ref f24))) (l24 : K.lookup f24 = some ⟨oc24, od24, .func (PySem.W.fnOf "_law_reordering" "_law_reordering" (defArgs st__law_reordering) (defBody st__law_reordering) (defScope st__law_reordering) .none kV24 dc24 pm24 an24 cd24 ct24), sl24⟩) (c24 : PySem.W.codeIn K cd24 "_law_reordering" = true) (k24 : PySem.W.keepIn K (.ref f24) = true)
    {f25 : Addr} {od25 an25 : Option Addr} {sl25 : Array (Option Value)} {oc25 kV25 dc25 pm25 cd25 ct25 : Value}
    (a25 : PySem.W.nsIn K mainGlobals "_law_near" = some (some (.ref f25))) (l25 : K.lookup f25 = some ⟨oc25, od25, .func (PySem.W.fnOf "_law_near" "_law_near" (defArgs st__law_near) (defBody st__law_near) (defScope st__law_near) .none kV25 dc25 pm25 an25 cd25 ct25), sl25⟩) (c25 : PySem.W.codeIn K cd25 "_law_near" = true) (k25 : PySem.W.keepIn K (.ref f25) = true)
    {f26 : Addr} {od26 an26 : Option Addr} {sl26 : Array (Option Value)} {oc26 kV26 dc26 pm26 cd26 ct26 : Value}
    (a26 : PySem.W.nsIn K mainGlobals "_law_lets" = some (some (.ref f26))) (l26 : K.lookup f26 = some ⟨oc26, od26, .func (PySem.W.fnOf "_law_lets" "_law_lets" (defArgs st__law_lets) (defBody st__law_lets) (defScope st__law_lets) .none kV26 dc26 pm26 an26 cd26 ct26), sl26⟩) (c26 : PySem.W.codeIn K cd26 "_law_lets" = true) (k26 : PySem.W.keepIn K (.ref f26) = true)
    {f27 : Addr} {od27 an27 : Option Addr} {sl27 : Array (Option Value)} {oc27 kV27 dc27 pm27 cd27 ct27 : Value}
    (a27 : PySem.W.nsIn K mainGlobals "_law_frame" = some (some (.ref f27))) (l27 : K.lookup f27 = some ⟨oc27, od27, .func (PySem.W.fnOf "_law_frame" "_law_frame" (defArgs st__law_frame) (defBody st__law_frame) (defScope st__law_frame) .none kV27 dc27 pm27 an27 cd27 ct27), sl27⟩) (c27 : PySem.W.codeIn K cd27 "_law_frame" = true) (k27 : PySem.W.keepIn K (.ref f27) = true)
    {f28 : Addr} {od28 an28 : Option Addr} {sl28 : Array (Option Value)} {oc28 kV28 dc28 pm28 cd28 ct28 : Value}
    (a28 : PySem.W.nsIn K mainGlobals "_law_hidden" = some (some (.ref f28))) (l28 : K.lookup f28 = some ⟨oc28, od28, .func (PySem.W.fnOf "_law_hidden" "_law_hidden" (defArgs st__law_hidden) (defBody st__law_hidden) (defScope st__law_hidden) .none kV28 dc28 pm28 an28 cd28 ct28), sl28⟩) (c28 : PySem.W.codeIn K cd28 "_law_hidden" = true) (k28 : PySem.W.keepIn K (.ref f28) = true)
    {f29 : Addr} {od29 an29 : Option Addr} {sl29 : Array (Option Value)} {oc29 kV29 dc29 pm29 cd29 ct29 : Value}
    (a29 : PySem.W.nsIn K mainGlobals "_law_found" = some (some (.ref f29))) (l29 : K.lookup f29 = some ⟨oc29, od29, .func (PySem.W.fnOf "_law_found" "_law_found" (defArgs st__law_found) (defBody st__law_found) (defScope st__law_found) .none kV29 dc29 pm29 an29 cd29 ct29), sl29⟩) (c29 : PySem.W.codeIn K cd29 "_law_found" = true) (k29 : PySem.W.keepIn K (.ref f29) = true)
    {f30 : Addr} {od30 an30 : Option Addr} {sl30 : Array (Option Value)} {oc30 kV30 dc30 pm30 cd30 ct30 : Value}
    (a30 : PySem.W.nsIn K mainGlobals "_law_findings" = some (some (.ref f30))) (l30 : K.lookup f30 = some ⟨oc30, od30, .func (PySem.W.fnOf "_law_findings" "_law_findings" (defArgs st__law_findings) (defBody st__law_findings) (defScope st__law_findings) .none kV30 dc30 pm30 an30 cd30 ct30), sl30⟩) (c30 : PySem.W.codeIn K cd30 "_law_findings" = true) (k30 : PySem.W.keepIn K (.ref f30) = true)
    {f31 : Addr} {od31 an31 : Option Addr} {sl31 : Array (Option Value)} {oc31 kV31 dc31 pm31 cd31 ct31 : Value}
    (a31 : PySem.W.nsIn K mainGlobals "_law_gcd" = some (some (.ref f31))) (l31 : K.lookup f31 = some ⟨oc31, od31, .func (PySem.W.fnOf "_law_gcd" "_law_gcd" (defArgs st__law_gcd) (defBody st__law_gcd) (defScope st__law_gcd) .none kV31 dc31 pm31 an31 cd31 ct31), sl31⟩) (c31 : PySem.W.codeIn K cd31 "_law_gcd" = true) (k31 : PySem.W.keepIn K (.ref f31) = true)
    {f32 : Addr} {od32 an32 : Option Addr} {sl32 : Array (Option Value)} {oc32 kV32 dc32 pm32 cd32 ct32 : Value}
    (a32 : PySem.W.nsIn K mainGlobals "_law_bound" = some (some (.ref f32))) (l32 : K.lookup f32 = some ⟨oc32, od32, .func (PySem.W.fnOf "_law_bound" "_law_bound" (defArgs st__law_bound) (defBody st__law_bound) (defScope st__law_bound) .none kV32 dc32 pm32 an32 cd32 ct32), sl32⟩) (c32 : PySem.W.codeIn K cd32 "_law_bound" = true) (k32 : PySem.W.keepIn K (.ref f32) = true)
    {f33 : Addr} {od33 an33 : Option Addr} {sl33 : Array (Option Value)} {oc33 kV33 dc33 pm33 cd33 ct33 : Value}
    (a33 : PySem.W.nsIn K mainGlobals "_law_left" = some (some (.ref f33))) (l33 : K.lookup f33 = some ⟨oc33, od33, .func (PySem.W.fnOf "_law_left" "_law_left" (defArgs st__law_left) (defBody st__law_left) (defScope st__law_left) .none kV33 dc33 pm33 an33 cd33 ct33), sl33⟩) (c33 : PySem.W.codeIn K cd33 "_law_left" = true) (k33 : PySem.W.keepIn K (.ref f33) = true)
    {f34 : Addr} {od34 an34 : Option Addr} {sl34 : Array (Option Value)} {oc34 kV34 dc34 pm34 cd34 ct34 : Value}
    (a34 : PySem.W.nsIn K mainGlobals "_law_possible" = some (some (.ref f34))) (l34 : K.lookup f34 = some ⟨oc34, od34, .func (PySem.W.fnOf "_law_possible" "_law_possible" (defArgs st__law_possible) (defBody st__law_possible) (defScope st__law_possible) .none kV34 dc34 pm34 an34 cd34 ct34), sl34⟩) (c34 : PySem.W.codeIn K cd34 "_law_possible" = true) (k34 : PySem.W.keepIn K (.ref f34) = true)
    {f35 : Addr} {od35 an35 : Option Addr} {sl35 : Array (Option Value)} {oc35 kV35 dc35 pm35 cd35 ct35 : Value}
    (a35 : PySem.W.nsIn K mainGlobals "_law_clashes" = some (some (.ref f35))) (l35 : K.lookup f35 = some ⟨oc35, od35, .func (PySem.W.fnOf "_law_clashes" "_law_clashes" (defArgs st__law_clashes) (defBody st__law_clashes) (defScope st__law_clashes) .none kV35 dc35 pm35 an35 cd35 ct35), sl35⟩) (c35 : PySem.W.codeIn K cd35 "_law_clashes" = true) (k35 : PySem.W.keepIn K (.ref f35) = true)
    {f36 : Addr} {od36 an36 : Option Addr} {sl36 : Array (Option Value)} {oc36 kV36 dc36 pm36 cd36 ct36 : Value}
    (a36 : PySem.W.nsIn K mainGlobals "_law_near_value" = some (some (.ref f36))) (l36 : K.lookup f36 = some ⟨oc36, od36, .func (PySem.W.fnOf "_law_near_value" "_law_near_value" (defArgs st__law_near_value) (defBody st__law_near_value) (defScope st__law_near_value) .none kV36 dc36 pm36 an36 cd36 ct36), sl36⟩) (c36 : PySem.W.codeIn K cd36 "_law_near_value" = true) (k36 : PySem.W.keepIn K (.ref f36) = true)
    {f37 : Addr} {od37 an37 : Option Addr} {sl37 : Array (Option Value)} {oc37 kV37 dc37 pm37 cd37 ct37 : Value}
    (a37 : PySem.W.nsIn K mainGlobals "law" = some (some (.ref f37))) (l37 : K.lookup f37 = some ⟨oc37, od37, .func (PySem.W.fnOf "law" "law" (defArgs st_law) (defBody st_law) (defScope st_law) .none kV37 dc37 pm37 an37 cd37 ct37), sl37⟩) (c37 : PySem.W.codeIn K cd37 "law" = true) (k37 : PySem.W.keepIn K (.ref f37) = true)
    (z_abs : PySem.W.nsIn K mainGlobals "abs" = some none)
    (z_all : PySem.W.nsIn K mainGlobals "all" = some none)
    (z_any : PySem.W.nsIn K mainGlobals "any" = some none)
    (z_bool : PySem.W.nsIn K mainGlobals "bool" = some none)
    (z_enumerate : PySem.W.nsIn K mainGlobals "enumerate" = some none)
    (z_int : PySem.W.nsIn K mainGlobals "int" = some none)
    (z_isinstance : PySem.W.nsIn K mainGlobals "isinstance" = some none)
    (z_len : PySem.W.nsIn K mainGlobals "len" = some none)
    (z_list : PySem.W.nsIn K mainGlobals "list" = some none)
    (z_max : PySem.W.nsIn K mainGlobals "max" = some none)
    (z_min : PySem.W.nsIn K mainGlobals "min" = some none)
    (z_range : PySem.W.nsIn K mainGlobals "range" = some none)
    (z_repr : PySem.W.nsIn K mainGlobals "repr" = some none)
    (z_set : PySem.W.nsIn K mainGlobals "set" = some none)
    (z_sorted : PySem.W.nsIn K mainGlobals "sorted" = some none)
    (z_sum : PySem.W.nsIn K mainGlobals "sum" = some none)
    (z_tuple : PySem.W.nsIn K mainGlobals "tuple" = some none)
    : ∃ fd : FuncData, (∀ (s : Shared) (v : Value), BindsTo s fd ⟨[v], []⟩ [("script", v)]) ∧ ∀ base : Heap, K.In base → base.Ns mainGlobals mg → FnOk P w K mg base (L2.CX P w) 10 fa fd ["script"] (spLaw K) := by
  have e := hfa.symm.trans (PySem.W.mg_of X G a37)
  cases e
  let T : Txt K mg :=
    {
      A_is_integer := f0, D_is_integer := _, g_is_integer := PySem.W.mg_of X G a0, F_is_integer := fun_mk (st := st_is_integer) l0 c0 k0,
      A_is_number := f1, D_is_number := _, g_is_number := PySem.W.mg_of X G a1, F_is_number := fun_mk (st := st_is_number) l1 c1 k1,
      A_is_sequence := f2, D_is_sequence := _, g_is_sequence := PySem.W.mg_of X G a2, F_is_sequence := fun_mk (st := st_is_sequence) l2 c2 k2,
      A_is_index := f3, D_is_index := _, g_is_index := PySem.W.mg_of X G a3, F_is_index := fun_mk (st := st_is_index) l3 c3 k3,
      A_divisor := f4, D_divisor := _, g_divisor := PySem.W.mg_of X G a4, F_divisor := fun_mk (st := st_divisor) l4 c4 k4,
      A_fault := f5, D_fault := _, g_fault := PySem.W.mg_of X G a5, F_fault := fun_mk (st := st_fault) l5 c5 k5,
      A_checked_reordering := f6, D_checked_reordering := _, g_checked_reordering := PySem.W.mg_of X G a6, F_checked_reordering := fun_mk (st := st_checked_reordering) l6 c6 k6,
      A_frame := f7, D_frame := _, g_frame := PySem.W.mg_of X G a7, F_frame := fun_mk (st := st_frame) l7 c7 k7,
      A_is_allowed := f8, D_is_allowed := _, g_is_allowed := PySem.W.mg_of X G a8, F_is_allowed := fun_mk (st := st_is_allowed) l8 c8 k8,
      A_triple_fault := f9, D_triple_fault := _, g_triple_fault := PySem.W.mg_of X G a9, F_triple_fault := fun_mk (st := st_triple_fault) l9 c9 k9,
      A_checked_triple := f10, D_checked_triple := _, g_checked_triple := PySem.W.mg_of X G a10, F_checked_triple := fun_mk (st := st_checked_triple) l10 c10 k10,
      A_is_finding := f11, D_is_finding := _, g_is_finding := PySem.W.mg_of X G a11, F_is_finding := fun_mk (st := st_is_finding) l11 c11 k11,
      A_checked_findings := f12, D_checked_findings := _, g_checked_findings := PySem.W.mg_of X G a12, F_checked_findings := fun_mk (st := st_checked_findings) l12 c12 k12,
      A_agrees_with := f13, D_agrees_with := _, g_agrees_with := PySem.W.mg_of X G a13, F_agrees_with := fun_mk (st := st_agrees_with) l13 c13 k13,
      A_agrees := f14, D_agrees := _, g_agrees := PySem.W.mg_of X G a14, F_agrees := fun_mk (st := st_agrees) l14 c14 k14,
      A_widest_of := f15, D_widest_of := _, g_widest_of := PySem.W.mg_of X G a15, F_widest_of := fun_mk (st := st_widest_of) l15 c15 k15,
      A_widest := f16, D_widest := _, g_widest := PySem.W.mg_of X G a16, F_widest := fun_mk (st := st_widest) l16 c16 k16,
      A_is_possible := f17, D_is_possible := _, g_is_possible := PySem.W.mg_of X G a17, F_is_possible := fun_mk (st := st_is_possible) l17 c17 k17,
      A_clash := f18, D_clash := _, g_clash := PySem.W.mg_of X G a18, F_clash := fun_mk (st := st_clash) l18 c18 k18,
      A_is_clash := f19, D_is_clash := _, g_is_clash := PySem.W.mg_of X G a19, F_is_clash := fun_mk (st := st_is_clash) l19 c19 k19,
      A__law_draw := f20, D__law_draw := _, g__law_draw := PySem.W.mg_of X G a20, F__law_draw := fun_mk (st := st__law_draw) l20 c20 k20,
      A__law_any := f21, D__law_any := _, g__law_any := PySem.W.mg_of X G a21, F__law_any := fun_mk (st := st__law_any) l21 c21 k21,
      A__law_of := f22, D__law_of := _, g__law_of := PySem.W.mg_of X G a22, F__law_of := fun_mk (st := st__law_of) l22 c22 k22,
      A__law_mixed := f23, D__law_mixed := _, g__law_mixed := PySem.W.mg_of X G a23, F__law_mixed := fun_mk (st := st__law_mixed) l23 c23 k23,
      A__law_reordering := f24, D__law_reordering := _, g__law_reordering := PySem.W.mg_of X G a24, F__law_reordering := fun_mk (st := st__law_reordering) l24 c24 k24,
      A__law_near := f25, D__law_near := _, g__law_near := PySem.W.mg_of X G a25, F__law_near := fun_mk (st := st__law_near) l25 c25 k25,
      A__law_lets := f26, D__law_lets := _, g__law_lets := PySem.W.mg_of X G a26, F__law_lets := fun_mk (st := st__law_lets) l26 c26 k26,
      A__law_frame := f27, D__law_frame := _, g__law_frame := PySem.W.mg_of X G a27, F__law_frame := fun_mk (st := st__law_frame) l27 c27 k27,
      A__law_hidden := f28, D__law_hidden := _, g__law_hidden := PySem.W.mg_of X G a28, F__law_hidden := fun_mk (st := st__law_hidden) l28 c28 k28,
      A__law_found := f29, D__law_found := _, g__law_found := PySem.W.mg_of X G a29, F__law_found := fun_mk (st := st__law_found) l29 c29 k29,
      A__law_findings := f30, D__law_findings := _, g__law_findings := PySem.W.mg_of X G a30, F__law_findings := fun_mk (st := st__law_findings) l30 c30 k30,
      A__law_gcd := f31, D__law_gcd := _, g__law_gcd := PySem.W.mg_of X G a31, F__law_gcd := fun_mk (st := st__law_gcd) l31 c31 k31,
      A__law_bound := f32, D__law_bound := _, g__law_bound := PySem.W.mg_of X G a32, F__law_bound := fun_mk (st := st__law_bound) l32 c32 k32,
      A__law_left := f33, D__law_left := _, g__law_left := PySem.W.mg_of X G a33, F__law_left := fun_mk (st := st__law_left) l33 c33 k33,
      A__law_possible := f34, D__law_possible := _, g__law_possible := PySem.W.mg_of X G a34, F__law_possible := fun_mk (st := st__law_possible) l34 c34 k34,
      A__law_clashes := f35, D__law_clashes := _, g__law_clashes := PySem.W.mg_of X G a35, F__law_clashes := fun_mk (st := st__law_clashes) l35 c35 k35,
      A__law_near_value := f36, D__law_near_value := _, g__law_near_value := PySem.W.mg_of X G a36, F__law_near_value := fun_mk (st := st__law_near_value) l36 c36 k36,
      A_law := fa, D_law := _, g_law := PySem.W.mg_of X G a37, F_law := fun_mk (st := st_law) l37 c37 k37,
      n_abs := PySem.W.mg_none_of X G z_abs,
      n_all := PySem.W.mg_none_of X G z_all,
      n_any := PySem.W.mg_none_of X G z_any,
      n_bool := PySem.W.mg_none_of X G z_bool,
      n_enumerate := PySem.W.mg_none_of X G z_enumerate,
      n_int := PySem.W.mg_none_of X G z_int,
      n_isinstance := PySem.W.mg_none_of X G z_isinstance,
      n_len := PySem.W.mg_none_of X G z_len,
      n_list := PySem.W.mg_none_of X G z_list,
      n_max := PySem.W.mg_none_of X G z_max,
      n_min := PySem.W.mg_none_of X G z_min,
      n_range := PySem.W.mg_none_of X G z_range,
      n_repr := PySem.W.mg_none_of X G z_repr,
      n_set := PySem.W.mg_none_of X G z_set,
      n_sorted := PySem.W.mg_none_of X G z_sorted,
      n_sum := PySem.W.mg_none_of X G z_sum,
      n_tuple := PySem.W.mg_none_of X G z_tuple }
  exact ⟨_, fun s v => .of_eq rfl, fun base _ _ => ok_law T hf⟩
end
end DL.K50
open PySem PySem.W PyProof.Rows
set_option maxRecDepth 100000 in
set_option maxHeartbeats 0 in
theorem PySem.Challenge.cw_wheelsandends_k50_whole_widest_triples_a_holds : PySem.Challenge.rw_wheelsandends_k50_whole_widest_triples_a.Holds := by
  w_on; o_law; k_head; (case hw => w_witness2)
  k_fill
  refine L2.walk_of (l := PySem.Challenge.rw_wheelsandends_k50_whole_widest_triples_a) (n := 63) (k := 10) (x := "script") (CX := fun w => L2.CX PySem.Challenge.rw_wheelsandends_k50_whole_widest_triples_a.prog w) (sp := fun w => DL.spLaw _) rfl (by decide) rfl ⟨rfl, by decide, by decide⟩ (fun w h Y => PySem.W.kIn_of Y) ?F (fun w H a ns hl hO hS => ⟨a, ns, rfl, hS, DL.only_nt hO, fun _ => rfl⟩) (fun w H s e s' h => DL.cx_none h)
  case F =>
    intro w mg fa h KX G hmg
    refine' DL.K50.all_mk KX G hmg DL.K50.law_true ?a0 ?l0 ?c0 ?k0 ?a1 ?l1 ?c1 ?k1 ?a2 ?l2 ?c2 ?k2 ?a3 ?l3 ?c3 ?k3 ?a4 ?l4 ?c4 ?k4 ?a5 ?l5 ?c5 ?k5 ?a6 ?l6 ?c6 ?k6 ?a7 ?l7 ?c7 ?k7 ?a8 ?l8 ?c8 ?k8 ?a9 ?l9 ?c9 ?k9 ?a10 ?l10 ?c10 ?k10 ?a11 ?l11 ?c11 ?k11 ?a12 ?l12 ?c12 ?k12 ?a13 ?l13 ?c13 ?k13 ?a14 ?l14 ?c14 ?k14 ?a15 ?l15 ?c15 ?k15 ?a16 ?l16 ?c16 ?k16 ?a17 ?l17 ?c17 ?k17 ?a18 ?l18 ?c18 ?k18 ?a19 ?l19 ?c19 ?k19 ?a20 ?l20 ?c20 ?k20 ?a21 ?l21 ?c21 ?k21 ?a22 ?l22 ?c22 ?k22 ?a23 ?l23 ?c23 ?k23 ?a24 ?l24 ?c24 ?k24 ?a25 ?l25 ?c25 ?k25 ?a26 ?l26 ?c26 ?k26 ?a27 ?l27 ?c27 ?k27 ?a28 ?l28 ?c28 ?k28 ?a29 ?l29 ?c29 ?k29 ?a30 ?l30 ?c30 ?k30 ?a31 ?l31 ?c31 ?k31 ?a32 ?l32 ?c32 ?k32 ?a33 ?l33 ?c33 ?k33 ?a34 ?l34 ?c34 ?k34 ?a35 ?l35 ?c35 ?k35 ?a36 ?l36 ?c36 ?k36 ?a37 ?l37 ?c37 ?k37 ?z_abs ?z_all ?z_any ?z_bool ?z_enumerate ?z_int ?z_isinstance ?z_len ?z_list ?z_max ?z_min ?z_range ?z_repr ?z_set ?z_sorted ?z_sum ?z_tuple
    (case a0 => k_is); (case l0 => k_is); (case c0 => k_is); (case k0 => k_is); (case a1 => k_is); (case l1 => k_is); (case c1 => k_is); (case k1 => k_is); (case a2 => k_is); (case l2 => k_is); (case c2 => k_is); (case k2 => k_is); (case a3 => k_is); (case l3 => k_is); (case c3 => k_is); (case k3 => k_is); (case a4 => k_is); (case l4 => k_is); (case c4 => k_is); (case k4 => k_is); (case a5 => k_is); (case l5 => k_is); (case c5 => k_is); (case k5 => k_is); (case a6 => k_is); (case l6 => k_is); (case c6 => k_is); (case k6 => k_is); (case a7 => k_is); (case l7 => k_is); (case c7 => k_is); (case k7 => k_is); (case a8 => k_is); (case l8 => k_is); (case c8 => k_is); (case k8 => k_is); (case a9 => k_is); (case l9 => k_is); (case c9 => k_is); (case k9 => k_is); (case a10 => k_is); (case l10 => k_is); (case c10 => k_is); (case k10 => k_is); (case a11 => k_is); (case l11 => k_is); (case c11 => k_is); (case k11 => k_is); (case a12 => k_is); (case l12 => k_is); (case c12 => k_is); (case k12 => k_is); (case a13 => k_is); (case l13 => k_is); (case c13 => k_is); (case k13 => k_is); (case a14 => k_is); (case l14 => k_is); (case c14 => k_is); (case k14 => k_is); (case a15 => k_is); (case l15 => k_is); (case c15 => k_is); (case k15 => k_is); (case a16 => k_is); (case l16 => k_is); (case c16 => k_is); (case k16 => k_is); (case a17 => k_is); (case l17 => k_is); (case c17 => k_is); (case k17 => k_is); (case a18 => k_is); (case l18 => k_is); (case c18 => k_is); (case k18 => k_is); (case a19 => k_is); (case l19 => k_is); (case c19 => k_is); (case k19 => k_is); (case a20 => k_is); (case l20 => k_is); (case c20 => k_is); (case k20 => k_is); (case a21 => k_is); (case l21 => k_is); (case c21 => k_is); (case k21 => k_is); (case a22 => k_is); (case l22 => k_is); (case c22 => k_is); (case k22 => k_is); (case a23 => k_is); (case l23 => k_is); (case c23 => k_is); (case k23 => k_is); (case a24 => k_is); (case l24 => k_is); (case c24 => k_is); (case k24 => k_is); (case a25 => k_is); (case l25 => k_is); (case c25 => k_is); (case k25 => k_is); (case a26 => k_is); (case l26 => k_is); (case c26 => k_is); (case k26 => k_is); (case a27 => k_is); (case l27 => k_is); (case c27 => k_is); (case k27 => k_is); (case a28 => k_is); (case l28 => k_is); (case c28 => k_is); (case k28 => k_is); (case a29 => k_is); (case l29 => k_is); (case c29 => k_is); (case k29 => k_is); (case a30 => k_is); (case l30 => k_is); (case c30 => k_is); (case k30 => k_is); (case a31 => k_is); (case l31 => k_is); (case c31 => k_is); (case k31 => k_is); (case a32 => k_is); (case l32 => k_is); (case c32 => k_is); (case k32 => k_is); (case a33 => k_is); (case l33 => k_is); (case c33 => k_is); (case k33 => k_is); (case a34 => k_is); (case l34 => k_is); (case c34 => k_is); (case k34 => k_is); (case a35 => k_is); (case l35 => k_is); (case c35 => k_is); (case k35 => k_is); (case a36 => k_is); (case l36 => k_is); (case c36 => k_is); (case k36 => k_is); (case a37 => k_is); (case l37 => k_is); (case c37 => k_is); (case k37 => k_is); (case z_abs => k_is); (case z_all => k_is); (case z_any => k_is); (case z_bool => k_is); (case z_enumerate => k_is); (case z_int => k_is); (case z_isinstance => k_is); (case z_len => k_is); (case z_list => k_is); (case z_max => k_is); (case z_min => k_is); (case z_range => k_is); (case z_repr => k_is); (case z_set => k_is); (case z_sorted => k_is); (case z_sum => k_is); (case z_tuple => k_is)
