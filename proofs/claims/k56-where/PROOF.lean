import PyProof.Rows.All
import Wide.All
import OpenK.AllK
import Wide.FinOn
import HandS.ForMost
import HandS.Exc
import HandS.TryOnly
import HandS.WordsExc
import HandS.Lambda
import HandS.Wide
import HandS.TupAny
import HandS.TupLe
import HandS.Deep
import HandS.SortInts
import HandS.IsInst
import HandS.Zip
import KE.KSortedM
import KE.GoesMore
import HandS.NoneIn
import KE.GoesEnum
import HandS.RaiseMore
import HandS.Strs
import HandS.SetFor
import HandS.Style
import PyProof.CallFns
import HandS.Conv
import KE.KTupSum
import PyProof.ReprRoads
import HandS.EndTab
import HandS.ExcInit
import HandS.ExcIs
import HandS.ExcField
import HandS.ExcOwn
import KE.KExcSuper
import KE.KSuper
import KE.KExcIs
import HandS.EndBits
import HandS.Comp
import KE.KIntText
import PyProof.TupleOps
import PyProof.WalksMore
import HandS.Iter
import KE.GoesZip
import HandS.WideBits
import HandS.More
import HandS.HeadHook3
import PySem.Challenge.RW_wheelsandends_k56_whole_where_entries_go
set_option Elab.async false
set_option linter.all false
set_option maxRecDepth 100000
set_option maxHeartbeats 8000000
namespace DL
open PySem PySem.Spec PyProof.Rows L2

/-- what a value is, as data -/
inductive D where
  | non | bl (b : Bool) | int (i : Int) | str (x : Str)
  | tup (ds : List D) | lst (ds : List D)
  | obj (C : Nat) (ns : List Str) (ds : List D)
  | deal
  | err (cn : Nat) (ds : List D)
  | dK (ks : List Key) (ds : List D)
  | dT (ks : List (List Key)) (ds : List D)

/-- the error that a suite holds: where, its class, its dict -/
structure ErA where
  a : Addr
  cls : Value
  dd : Option Addr
/-- what surrounds: the written part, where the deal lies, the tables of code objects, the classes by number -/
structure Am where
  K : PySem.W.Frag
  ws : Option (Addr × Addr)
  T : List (Addr × Str)
  cl : Nat → Addr
  er : Option ErA
def Am.dl (A : Am) (p : Addr) : Prop := ∃ w, A.ws = some w ∧ (p = w.1 ∨ p = w.2)
/-- the deal's state: its great cells, its blend -/
abbrev Wd := List Int × Int

mutual
def Rep (A : Am) (H : Hp) : D → V → Prop
  | .non, v => v = .non
  | .bl b, v => v = .bl b
  | .int i, v => v = .int i
  | .str x, v => v = .str x
  | .tup ds, v => ∃ a xs, v = .ref a ∧ H a = some (.tup xs) ∧ RepL A H ds xs
  | .lst ds, v => ∃ a xs, v = .ref a ∧ H a = some (.lst xs) ∧ RepL A H ds xs
  | .obj C ns ds, v => ∃ a dx fs, v = .ref a ∧ H a = some (.ins (A.cl C) dx fs) ∧ fs.map (·.1) = ns ∧ RepL A H ds (fs.map (·.2))
  | .deal, v => ∃ w, A.ws = some w ∧ v = .ref w.1
  | .err cn ds, v => ∃ (p : ErA) (fs : List (Str × V)), A.er = some p ∧ v = .ref p.a ∧ p.cls = .ref (A.cl cn) ∧ RepL A H ds (fs.map Prod.snd) ∧ ((ds = [] ∧ p.dd = none) ∨ ∃ da, p.dd = some da ∧ H da = some (.xd fs) ∧ fs.map (·.1) = [("at" : Str)])
  | .dK ks ds, v => ∃ a kvs, v = .ref a ∧ H a = some (.dK kvs) ∧ kvs.map Prod.fst = ks ∧ RepL A H ds (kvs.map Prod.snd)
  | .dT ks ds, v => ∃ a kvs, v = .ref a ∧ H a = some (.dT kvs) ∧ kvs.map Prod.fst = ks ∧ RepL A H ds (kvs.map Prod.snd)
def RepL (A : Am) (H : Hp) : List D → List V → Prop
  | [], xs => xs = []
  | d :: ds, xs => ∃ x r, xs = x :: r ∧ Rep A H d x ∧ RepL A H ds r
end

mutual
theorem Rep.mono {A : Am} {H H' : Hp} (e : Same H H') : ∀ (d : D) (v : V), Rep A H d v → Rep A H' d v
  | .non, v, h => by unfold Rep at h ⊢; exact h
  | .bl b, v, h => by unfold Rep at h ⊢; exact h
  | .int i, v, h => by unfold Rep at h ⊢; exact h
  | .str x, v, h => by unfold Rep at h ⊢; exact h
  | .tup ds, v, h => by
    unfold Rep at h ⊢
    obtain ⟨a, xs, h1, h2, h3⟩ := h
    exact ⟨a, xs, h1, e _ _ h2, RepL.mono e ds xs h3⟩
  | .lst ds, v, h => by
    unfold Rep at h ⊢
    obtain ⟨a, xs, h1, h2, h3⟩ := h
    exact ⟨a, xs, h1, e _ _ h2, RepL.mono e ds xs h3⟩
  | .obj C ns ds, v, h => by
    unfold Rep at h ⊢
    obtain ⟨a, dx, fs, h1, h2, h3, h4⟩ := h
    exact ⟨a, dx, fs, h1, e _ _ h2, h3, RepL.mono e ds _ h4⟩
  | .deal, v, h => by unfold Rep at h ⊢; exact h
  | .dK ks ds, v, h => by
    unfold Rep at h ⊢
    obtain ⟨a, kvs, h1, h2, h3, h4⟩ := h
    exact ⟨a, kvs, h1, e _ _ h2, h3, RepL.mono e ds _ h4⟩
  | .dT ks ds, v, h => by
    unfold Rep at h ⊢
    obtain ⟨a, kvs, h1, h2, h3, h4⟩ := h
    exact ⟨a, kvs, h1, e _ _ h2, h3, RepL.mono e ds _ h4⟩
  | .err cn ds, v, h => by
    unfold Rep at h ⊢
    obtain ⟨p, fs, h1, h2, h3, h4, h5⟩ := h
    refine ⟨p, fs, h1, h2, h3, RepL.mono e ds _ h4, ?_⟩
    rcases h5 with h5 | ⟨da, h6, h7, h8⟩
    · exact .inl h5
    · exact .inr ⟨da, h6, e _ _ h7, h8⟩
theorem RepL.mono {A : Am} {H H' : Hp} (e : Same H H') : ∀ (ds : List D) (xs : List V), RepL A H ds xs → RepL A H' ds xs
  | [], xs, h => by unfold RepL at h ⊢; exact h
  | d :: ds, xs, h => by
    unfold RepL at h ⊢
    obtain ⟨x, r, h1, h2, h3⟩ := h
    exact ⟨x, r, h1, Rep.mono e d x h2, RepL.mono e ds r h3⟩
end

section
variable {A : Am} {H : Hp} {v : V} {xs : List V} {ds : List D} {d : D}
theorem rep_non : Rep A H .non v ↔ v = .non := by unfold Rep; exact Iff.rfl
theorem rep_bl {b} : Rep A H (.bl b) v ↔ v = .bl b := by unfold Rep; exact Iff.rfl
theorem rep_int {i} : Rep A H (.int i) v ↔ v = .int i := by unfold Rep; exact Iff.rfl
theorem rep_str {x} : Rep A H (.str x) v ↔ v = .str x := by unfold Rep; exact Iff.rfl
theorem rep_tup : Rep A H (.tup ds) v ↔ ∃ a xs, v = .ref a ∧ H a = some (.tup xs) ∧ RepL A H ds xs := by
  conv => lhs; unfold Rep
theorem rep_lst : Rep A H (.lst ds) v ↔ ∃ a xs, v = .ref a ∧ H a = some (.lst xs) ∧ RepL A H ds xs := by
  conv => lhs; unfold Rep
theorem rep_dK {ks : List Key} : Rep A H (.dK ks ds) v ↔ ∃ a kvs, v = .ref a ∧ H a = some (.dK kvs) ∧ kvs.map Prod.fst = ks ∧ RepL A H ds (kvs.map Prod.snd) := by
  conv => lhs; unfold Rep
theorem rep_dT {ks : List (List Key)} : Rep A H (.dT ks ds) v ↔ ∃ a kvs, v = .ref a ∧ H a = some (.dT kvs) ∧ kvs.map Prod.fst = ks ∧ RepL A H ds (kvs.map Prod.snd) := by
  conv => lhs; unfold Rep
theorem repL_nil : RepL A H [] xs ↔ xs = [] := by unfold RepL; exact Iff.rfl
theorem repL_cons : RepL A H (d :: ds) xs ↔ ∃ x r, xs = x :: r ∧ Rep A H d x ∧ RepL A H ds r := by
  conv => lhs; unfold RepL
theorem RepL.cons {x : V} (h : Rep A H d x) (t : RepL A H ds xs) : RepL A H (d :: ds) (x :: xs) := repL_cons.mpr ⟨x, xs, rfl, h, t⟩
theorem RepL.nil : RepL A H [] [] := repL_nil.mpr rfl
theorem RepL.len : ∀ {ds : List D} {xs : List V}, RepL A H ds xs → ds.length = xs.length
  | [], xs, h => by rw [repL_nil.mp h]; rfl
  | d :: ds, xs, h => by
    obtain ⟨x, r, rfl, _, t⟩ := repL_cons.mp h
    rw [List.length_cons, List.length_cons, RepL.len t]
theorem RepL.get : ∀ {ds : List D} {xs : List V} {i : Nat} {d : D}, RepL A H ds xs → ds[i]? = some d → ∃ x, xs[i]? = some x ∧ Rep A H d x
  | [], xs, i, d, h, e => by simp at e
  | d0 :: ds, xs, 0, d, h, e => by
    obtain ⟨x, r, rfl, hx, _⟩ := repL_cons.mp h
    simp at e
    subst e
    exact ⟨x, rfl, hx⟩
  | d0 :: ds, xs, i + 1, d, h, e => by
    obtain ⟨x, r, rfl, _, t⟩ := repL_cons.mp h
    obtain ⟨y, h1, h2⟩ := RepL.get (i := i) (d := d) t (by simpa using e)
    exact ⟨y, by simpa using h1, h2⟩
theorem RepL.get' : ∀ {ds : List D} {xs : List V} {i : Nat} {x : V}, RepL A H ds xs → xs[i]? = some x → ∃ d, ds[i]? = some d ∧ Rep A H d x := by
  intro ds xs i x h e
  have hl := h.len
  have hi : i < xs.length := (List.getElem?_eq_some_iff.mp e).1
  have hd : ds[i]? = some (ds[i]'(by omega)) := List.getElem?_eq_getElem (by omega)
  obtain ⟨y, h1, h2⟩ := h.get hd
  rw [e] at h1
  cases h1
  exact ⟨_, hd, h2⟩
theorem RepL.append : ∀ {ds es : List D} {xs ys : List V}, RepL A H ds xs → RepL A H es ys → RepL A H (ds ++ es) (xs ++ ys)
  | [], es, xs, ys, h, k => by rw [repL_nil.mp h]; exact k
  | d :: ds, es, xs, ys, h, k => by
    obtain ⟨x, r, rfl, hx, t⟩ := repL_cons.mp h
    exact RepL.cons hx (RepL.append t k)
theorem RepL.take : ∀ {ds : List D} {xs : List V} (n : Nat), RepL A H ds xs → RepL A H (ds.take n) (xs.take n)
  | ds, xs, 0, h => by simp [RepL.nil]
  | [], xs, n + 1, h => by rw [repL_nil.mp h]; exact RepL.nil
  | d :: ds, xs, n + 1, h => by
    obtain ⟨x, r, rfl, hx, t⟩ := repL_cons.mp h
    exact RepL.cons hx (RepL.take n t)
theorem RepL.drop : ∀ {ds : List D} {xs : List V} (n : Nat), RepL A H ds xs → RepL A H (ds.drop n) (xs.drop n)
  | ds, xs, 0, h => h
  | [], xs, n + 1, h => by rw [repL_nil.mp h]; exact RepL.nil
  | d :: ds, xs, n + 1, h => by
    obtain ⟨x, r, rfl, hx, t⟩ := repL_cons.mp h
    exact RepL.drop n t
theorem RepL.set : ∀ {ds : List D} {xs : List V} {d : D} {x : V} (n : Nat), RepL A H ds xs → Rep A H d x → RepL A H (ds.set n d) (xs.set n x)
  | [], xs, d, x, n, h, k => by rw [repL_nil.mp h]; exact RepL.nil
  | d0 :: ds, xs, d, x, 0, h, k => by
    obtain ⟨y, r, rfl, hy, t⟩ := repL_cons.mp h
    exact RepL.cons k t
  | d0 :: ds, xs, d, x, n + 1, h, k => by
    obtain ⟨y, r, rfl, hy, t⟩ := repL_cons.mp h
    exact RepL.cons hy (RepL.set n t k)
theorem RepL.reverse : ∀ {ds : List D} {xs : List V}, RepL A H ds xs → RepL A H ds.reverse xs.reverse
  | [], xs, h => by rw [repL_nil.mp h]; exact RepL.nil
  | d :: ds, xs, h => by
    obtain ⟨x, r, rfl, hx, t⟩ := repL_cons.mp h
    rw [List.reverse_cons, List.reverse_cons]
    exact (RepL.reverse t).append (RepL.cons hx RepL.nil)
theorem RepL.ints : ∀ {ns : List Int} {xs : List V}, RepL A H (ns.map D.int) xs → xs = ns.map V.int
  | [], xs, h => repL_nil.mp h
  | n :: ns, xs, h => by
    obtain ⟨x, r, rfl, hx, t⟩ := repL_cons.mp (show RepL A H (D.int n :: ns.map D.int) xs from h)
    rw [rep_int.mp hx, RepL.ints t]
    rfl
theorem RepL.of_ints : ∀ (ns : List Int), RepL A H (ns.map D.int) (ns.map V.int)
  | [] => RepL.nil
  | n :: ns => RepL.cons (rep_int.mpr rfl) (RepL.of_ints ns)
end

/-! ### the state -/
/-- the frame's slots as data: nothing known | shared data | a list of the frame's own -/
structure Cfg where
  r : List (Option (Bool × D))
  W : Wd
def Cfg.put (c : Cfg) (i : Nat) (o : Option (Bool × D)) : Cfg := { c with r := c.r.set i o }
def WOk (A : Am) (Hb H : Hp) (W : Wd) : Prop := ∀ w, A.ws = some w → H w.1 = some (.lst [.ref w.2, .int W.2]) ∧ H w.2 = some (.lst (W.1.map V.int)) ∧ Hb w.1 = none ∧ Hb w.2 = none ∧ w.1 ≠ w.2
structure HR (A : Am) (Hb H : Hp) (W : Wd) : Prop where
  same : Same Hb H
  notb : ∀ p ps, Hb p ≠ some (.tbl ps)
  w : WOk A Hb H W
  tabs : LamX.Tabs A.T H
/-- no table of code objects -/
def NT (o : HO) : Prop := ∀ ps, o ≠ .tbl ps
/-- at p stands nothing but, at most, a table -/
def NtN (H : Hp) (p : Addr) : Prop := ∀ o, H p = some o → NT o → False
theorem NtN.of {H : Hp} {p : Addr} (h : H p = none) : NtN H p := fun o e _ => by rw [h] at e; cases e
theorem NtN.ne {H : Hp} {p q : Addr} {o : HO} (h : NtN H q) (e : H p = some o) (n : NT o) : p ≠ q := fun z => h o (by rw [← z]; exact e) n
structure Kept (A : Am) (H H' : Hp) : Prop where
  it : ∀ p o, H p = some o → NT o → ∃ o', H' p = some o' ∧ NT o'
  eq : ∀ p o, H p = some o → ¬ A.dl p → (∀ ps, o ≠ .tbl ps) → H' p = some o
theorem Kept.refl {A : Am} (H : Hp) : Kept A H H := ⟨fun p o h n => ⟨o, h, n⟩, fun p o h _ _ => h⟩
theorem Kept.trans {A : Am} {H H1 H2 : Hp} (a : Kept A H H1) (b : Kept A H1 H2) : Kept A H H2 :=
  ⟨fun p o h n => by obtain ⟨o1, h1, n1⟩ := a.it p o h n; exact b.it p o1 h1 n1, fun p o h n t => b.eq p o (a.eq p o h n t) n t⟩
theorem Kept.of {A : Am} {H H' : Hp} (e : Same H H') : Kept A H H' := ⟨fun p o h n => ⟨o, e p o h, n⟩, fun p o h _ _ => e p o h⟩
theorem HR.nodl {A : Am} {Hb H : Hp} {W : Wd} (h : HR A Hb H W) {p : Addr} {o : HO} (e : Hb p = some o) : ¬ A.dl p := by
  rintro ⟨w, hw, rfl | rfl⟩
  · rw [(h.w w hw).2.2.1] at e; cases e
  · rw [(h.w w hw).2.2.2.1] at e; cases e
theorem HR.sameK {A : Am} {Hb H H' : Hp} {W : Wd} (h : HR A Hb H W) (k : Kept A H H') : Same Hb H' := fun p o e =>
  k.eq p o (h.same p o e) (h.nodl e) fun ps z => h.notb p ps (by rw [e, z])
/-- what stands new or fresh is not the deal's -/
theorem HR.fresh {A : Am} {Hb H : Hp} {W : Wd} (h : HR A Hb H W) {p : Addr} (e : H p = none) : ¬ A.dl p := by
  rintro ⟨w, hw, rfl | rfl⟩
  · rw [(h.w w hw).1] at e; cases e
  · rw [(h.w w hw).2.1] at e; cases e
theorem HR.freshB {A : Am} {Hb H : Hp} {W : Wd} (h : HR A Hb H W) {p : Addr} (e : H p = none) : Hb p = none := by
  cases q : Hb p with
  | none => rfl
  | some o => rw [h.same p o q] at e; cases e
/-- an object of the frame's own -/
def ObjD (A : Am) (Hb : Hp) : D → HO → Prop
  | .lst ds, o => ∃ xs, o = .lst xs ∧ RepL A Hb ds xs
  | .obj C ns ds, o => ∃ dx fs, o = .ins (A.cl C) dx fs ∧ fs.map (·.1) = ns ∧ RepL A Hb ds (fs.map (·.2))
  | .dK ks ds, o => ∃ kvs, o = .dK kvs ∧ kvs.map Prod.fst = ks ∧ RepL A Hb ds (kvs.map Prod.snd)
  | .dT ks ds, o => ∃ kvs, o = .dT kvs ∧ kvs.map Prod.fst = ks ∧ RepL A Hb ds (kvs.map Prod.snd)
  | _, _ => False
theorem ObjD.mono {A : Am} {Hb Hb' : Hp} {d : D} {o : HO} (e : Same Hb Hb') (h : ObjD A Hb d o) : ObjD A Hb' d o := by
  cases d with
  | lst ds =>
    obtain ⟨xs, h1, h2⟩ := h
    exact ⟨xs, h1, RepL.mono e _ _ h2⟩
  | non => exact h
  | bl b => exact h
  | int i => exact h
  | str x => exact h
  | tup ds => exact h
  | obj C ns ds =>
    obtain ⟨dx, fs, h1, h2, h3⟩ := h
    exact ⟨dx, fs, h1, h2, RepL.mono e _ _ h3⟩
  | deal => exact h
  | err cn es => exact h
  | dK ks ds =>
    obtain ⟨kvs, h1, h2, h3⟩ := h
    exact ⟨kvs, h1, h2, RepL.mono e _ _ h3⟩
  | dT ks ds =>
    obtain ⟨kvs, h1, h2, h3⟩ := h
    exact ⟨kvs, h1, h2, RepL.mono e _ _ h3⟩
theorem ObjD.notb {A : Am} {Hb : Hp} {d : D} {o : HO} (h : ObjD A Hb d o) : ∀ ps, o ≠ .tbl ps := by
  intro ps z
  cases d with
  | lst ds =>
    obtain ⟨xs, h1, h2⟩ := h
    rw [h1] at z
    cases z
  | non => exact h
  | bl b => exact h
  | int i => exact h
  | str x => exact h
  | tup ds => exact h
  | obj C ns ds =>
    obtain ⟨dx, fs, h1, h2, h3⟩ := h
    rw [h1] at z
    cases z
  | deal => exact h
  | err cn es => exact h
  | dK ks ds =>
    obtain ⟨kvs, h1, h2, h3⟩ := h
    rw [h1] at z
    cases z
  | dT ks ds =>
    obtain ⟨kvs, h1, h2, h3⟩ := h
    rw [h1] at z
    cases z
/-- frozen where it stands -/
theorem ObjD.rep {A : Am} {Hb : Hp} {d : D} {o : HO} {a : Addr} (h : ObjD A Hb d o) (n : Hb a = none) : Rep A (upd Hb a o) d (.ref a) := by
  have e : Same Hb (upd Hb a o) := fun p u q => by rw [upd_ne (ne_of_none q n)]; exact q
  cases d with
  | lst ds =>
    obtain ⟨xs, h1, h2⟩ := h
    subst h1
    exact rep_lst.mpr ⟨a, xs, rfl, upd_same, RepL.mono e _ _ h2⟩
  | non => exact h.elim
  | bl b => exact h.elim
  | int i => exact h.elim
  | str x => exact h.elim
  | tup ds => exact h.elim
  | obj C ns ds =>
    obtain ⟨dx, fs, h1, h2, h3⟩ := h
    subst h1
    unfold Rep
    exact ⟨a, dx, fs, rfl, upd_same, h2, RepL.mono e _ _ h3⟩
  | deal => exact h.elim
  | err cn es => exact h.elim
  | dK ks ds =>
    obtain ⟨kvs, h1, h2, h3⟩ := h
    subst h1
    exact rep_dK.mpr ⟨a, kvs, rfl, upd_same, h2, RepL.mono e _ _ h3⟩
  | dT ks ds =>
    obtain ⟨kvs, h1, h2, h3⟩ := h
    subst h1
    exact rep_dT.mpr ⟨a, kvs, rfl, upd_same, h2, RepL.mono e _ _ h3⟩
/-- at the def's entry: what is known for good, all that is tracked -/
structure Bs where
  b0 : Hp
  h0 : Hp
  pr : Addr → Prop
/-- what holds from the entry on -/
structure Fin (A : Am) (B : Bs) (Hb H : Hp) (W : Wd) : Prop where
  hr : HR A Hb H W
  b0 : Same B.b0 Hb
  kp : Kept A B.h0 H
  nb : ∀ p o, B.b0 p = none → B.h0 p = some o → NT o → Hb p = none
structure Sr (A : Am) (B : Bs) (Hb H : Hp) (σ : List (Option V)) (c : Cfg) : Prop where
  fin : Fin A B Hb H c.W
  len : c.r.length = σ.length
  sh : ∀ (i : Nat) (d : D), c.r[i]? = some (some (false, d)) → ∃ v : V, σ[i]? = some (some v) ∧ Rep A Hb d v
  ow : ∀ (i : Nat) (d : D), c.r[i]? = some (some (true, d)) → ∃ (a : Addr) (o : HO), σ[i]? = some (some (V.ref a)) ∧ H a = some o ∧ ObjD A Hb d o ∧ Hb a = none ∧ ¬ A.dl a ∧ NtN B.h0 a
  sep : ∀ (i j : Nat) (di dj : D) (a : Addr), c.r[i]? = some (some (true, di)) → c.r[j]? = some (some (true, dj)) → σ[i]? = some (some (V.ref a)) → σ[j]? = some (some (V.ref a)) → i = j
  pr : ∀ p, B.pr p → (∃ o, H p = some o ∧ NT o) ∧ Hb p = none ∧ ∀ (i : Nat) (d : D), c.r[i]? = some (some (true, d)) → σ[i]? ≠ some (some (V.ref p))
/-- from one heap to the next, within an expression -/
structure Stp (A : Am) (Hb H Hb' H' : Hp) : Prop where
  b : Same Hb Hb'
  k : Kept A H H'
theorem Stp.refl {A : Am} {Hb H : Hp} : Stp A Hb H Hb H := ⟨Same.refl _, Kept.refl _⟩
theorem Stp.trans {A : Am} {Hb H Hb1 H1 Hb2 H2 : Hp} (a : Stp A Hb H Hb1 H1) (b : Stp A Hb1 H1 Hb2 H2) : Stp A Hb H Hb2 H2 := ⟨a.b.trans b.b, a.k.trans b.k⟩

/-! ### kinds of results -/
inductive Kd where
  | st | fr | bo
def RepO (A : Am) (Hb H : Hp) (d : D) (v : V) : Prop := Rep A Hb d v ∨ ∃ a o, v = .ref a ∧ H a = some o ∧ ObjD A Hb d o ∧ ¬ A.dl a
def FrO (A : Am) (B : Bs) (Hb H : Hp) (d : D) (v : V) (a : Addr) : Prop := ∃ o, v = .ref a ∧ H a = some o ∧ ObjD A Hb d o ∧ Hb a = none ∧ ¬ A.dl a ∧ NtN B.h0 a ∧ ¬ B.pr a
def RepK (A : Am) (B : Bs) (Hb H : Hp) (σ : List (Option V)) (c : Cfg) : Kd → D → V → Prop
  | .st, d, v => Rep A Hb d v
  | .fr, d, v => ∃ a, FrO A B Hb H d v a ∧ ∀ (i : Nat) (d' : D), c.r[i]? = some (some (true, d')) → σ[i]? ≠ some (some (V.ref a))
  | .bo, d, v => RepO A Hb H d v
section
variable {A : Am} {B : Bs} {Hb H Hb' H' : Hp} {σ : List (Option V)} {c : Cfg} {k : Kd} {d : D} {v : V}
theorem RepO.mono (s : Stp A Hb H Hb' H') (h : RepO A Hb H d v) : RepO A Hb' H' d v := by
  rcases h with h | ⟨a, o, h1, h2, h3, h4⟩
  · exact .inl (Rep.mono s.b _ _ h)
  · exact .inr ⟨a, o, h1, s.k.eq a o h2 h4 h3.notb, h3.mono s.b, h4⟩
theorem RepK.o (h : RepK A B Hb H σ c k d v) : RepO A Hb H d v := by
  cases k with
  | st => exact .inl h
  | fr =>
    obtain ⟨a, ⟨o, h1, h2, h3, h4, h5, h6, _⟩, h7⟩ := h
    exact .inr ⟨a, o, h1, h2, h3, h5⟩
  | bo => exact h
theorem same_upd {H : Hp} {p : Addr} {o : HO} (h : H p = none) : Same H (upd H p o) := fun b x e => by
  rw [upd_ne (ne_of_none e h)]
  exact e
/-- a new object comes into the heap -/
theorem Fin.new {W : Wd} {p : Addr} {o : HO} (f : Fin A B Hb H W) (hp : H p = none) : Fin A B Hb (upd H p o) W := by
  have e : Same H (upd H p o) := same_upd hp
  refine ⟨⟨f.hr.same.trans e, f.hr.notb, fun w hw => ?_, f.hr.tabs.ext e⟩, f.b0, f.kp.trans (.of e), f.nb⟩
  obtain ⟨h1, h2, h3, h4, h5⟩ := f.hr.w w hw
  exact ⟨e _ _ h1, e _ _ h2, h3, h4, h5⟩
theorem Fin.h0n {W : Wd} {p : Addr} (f : Fin A B Hb H W) (hp : H p = none) : NtN B.h0 p := fun o q n => by
  obtain ⟨o', e, _⟩ := f.kp.it p o q n
  rw [e] at hp
  cases hp
/-- an object that is not known for good becomes so -/
theorem Fin.frz {W : Wd} {a : Addr} {o : HO} (f : Fin A B Hb H W) (ha : H a = some o) (hb : Hb a = none) (hn : ¬ A.dl a) (h0 : NtN B.h0 a) (ht : ∀ ps, o ≠ .tbl ps) : Fin A B (upd Hb a o) H W := by
  have e : Same Hb (upd Hb a o) := same_upd hb
  refine ⟨⟨fun p u q => ?_, fun p ps q => ?_, fun w hw => ?_, f.hr.tabs⟩, f.b0.trans e, f.kp, fun p u q1 q2 q3 => ?_⟩
  · by_cases hp : p = a
    · subst hp; rw [upd_same] at q; cases q; exact ha
    · rw [upd_ne hp] at q; exact f.hr.same p u q
  · by_cases hp : p = a
    · subst hp; rw [upd_same] at q; cases q; exact ht ps rfl
    · rw [upd_ne hp] at q; exact f.hr.notb p ps q
  · obtain ⟨h1, h2, h3, h4, h5⟩ := f.hr.w w hw
    have n1 : w.1 ≠ a := fun z => hn ⟨w, hw, .inl z.symm⟩
    have n2 : w.2 ≠ a := fun z => hn ⟨w, hw, .inr z.symm⟩
    exact ⟨h1, h2, by rw [upd_ne n1]; exact h3, by rw [upd_ne n2]; exact h4, h5⟩
  · rw [upd_ne (h0.ne q2 q3)]
    exact f.nb p u q1 q2 q3
theorem Sr.new {p : Addr} {o : HO} (s : Sr A B Hb H σ c) (hp : H p = none) : Sr A B Hb (upd H p o) σ c :=
  ⟨s.fin.new hp, s.len, s.sh, fun i d h => by
    obtain ⟨a, u, h1, h2, h3, h4, h5, h6⟩ := s.ow i d h
    exact ⟨a, u, h1, same_upd hp a u h2, h3, h4, h5, h6⟩, s.sep, fun q h => by
    obtain ⟨⟨u, h1, n1⟩, h2, h3⟩ := s.pr q h
    exact ⟨⟨u, same_upd hp q u h1, n1⟩, h2, h3⟩⟩
/-- a list that nobody holds becomes known for good -/
theorem Sr.frz {a : Addr} {o : HO} (s : Sr A B Hb H σ c) (ha : H a = some o) (hb : Hb a = none) (hn : ¬ A.dl a) (h0 : NtN B.h0 a) (np : ¬ B.pr a) (ht : ∀ ps, o ≠ .tbl ps)
    (no : ∀ (i : Nat) (d' : D), c.r[i]? = some (some (true, d')) → σ[i]? ≠ some (some (V.ref a))) : Sr A B (upd Hb a o) H σ c := by
  have e : Same Hb (upd Hb a o) := same_upd hb
  refine ⟨s.fin.frz ha hb hn h0 ht, s.len, fun i d h => ?_, fun i d h => ?_, s.sep, fun q h => ?_⟩
  · obtain ⟨v, h1, h2⟩ := s.sh i d h
    exact ⟨v, h1, Rep.mono e _ _ h2⟩
  · obtain ⟨b, u, h1, h2, h3, h4, h5, h6⟩ := s.ow i d h
    have hba : b ≠ a := fun z => no i d h (by rw [h1, z])
    exact ⟨b, u, h1, h2, h3.mono e, by rw [upd_ne hba]; exact h4, h5, h6⟩
  · obtain ⟨h1, h2, h3⟩ := s.pr q h
    have hq : q ≠ a := fun z => np (by rw [← z]; exact h)
    exact ⟨h1, by rw [upd_ne hq]; exact h2, h3⟩
/-- a result of any kind but a borrowed one can be kept for good -/
theorem RepK.keep (s : Sr A B Hb H σ c) (h : RepK A B Hb H σ c k d v) (hk : k ≠ .bo) : ∃ Hb', Sr A B Hb' H σ c ∧ Same Hb Hb' ∧ Rep A Hb' d v := by
  cases k with
  | st => exact ⟨Hb, s, Same.refl _, h⟩
  | fr =>
    obtain ⟨a, ⟨o, h1, h2, h3, h4, h5, h6, h8⟩, h7⟩ := h
    subst h1
    exact ⟨upd Hb a o, s.frz h2 h4 h5 h6 h8 h3.notb h7, same_upd h4, h3.rep h4⟩
  | bo => exact absurd rfl hk
theorem put_get {c : Cfg} {i j : Nat} {o : Option (Bool × D)} {u : Bool × D} (h : (c.put i o).r[j]? = some (some u)) : (j = i ∧ o = some u) ∨ (j ≠ i ∧ c.r[j]? = some (some u)) := by
  unfold Cfg.put at h
  by_cases hj : j = i
  · subst hj
    have hl : j < c.r.length := by
      cases Nat.lt_or_ge j c.r.length with
      | inl q => exact q
      | inr q =>
        rw [List.getElem?_eq_none (by simpa using q)] at h
        cases h
    rw [List.getElem?_set_self (by simpa using hl)] at h
    exact .inl ⟨rfl, Option.some.inj h⟩
  · rw [List.getElem?_set_ne (fun z => hj z.symm)] at h
    exact .inr ⟨hj, h⟩
/-- a slot takes shared data -/
theorem Sr.setS {i : Nat} (s : Sr A B Hb H σ c) (hi : i < c.r.length) (h : Rep A Hb d v) : Sr A B Hb H (σ.set i (some v)) (c.put i (some (false, d))) := by
  have ls : i < σ.length := by rw [← s.len]; exact hi
  refine ⟨s.fin, by simp [Cfg.put, s.len], fun j e hj => ?_, fun j e hj => ?_, fun j l dj dl a hj hl e1 e2 => ?_, fun p hp => ?_⟩
  rotate_right
  · obtain ⟨h1, h2, h3⟩ := s.pr p hp
    refine ⟨h1, h2, fun j d hj z => ?_⟩
    rcases put_get hj with ⟨rfl, q⟩ | ⟨n, q⟩
    · cases q
    · rw [List.getElem?_set_ne (fun z => n z.symm)] at z
      exact h3 j d q z
  · rcases put_get hj with ⟨rfl, q⟩ | ⟨n, q⟩
    · cases q
      exact ⟨v, List.getElem?_set_self ls, h⟩
    · obtain ⟨w, h1, h2⟩ := s.sh j e q
      exact ⟨w, by rw [List.getElem?_set_ne (fun z => n z.symm)]; exact h1, h2⟩
  · rcases put_get hj with ⟨rfl, q⟩ | ⟨n, q⟩
    · cases q
    · obtain ⟨a, o, h1, h2⟩ := s.ow j e q
      exact ⟨a, o, by rw [List.getElem?_set_ne (fun z => n z.symm)]; exact h1, h2⟩
  · rcases put_get hj with ⟨rfl, q⟩ | ⟨n1, q1⟩
    · cases q
    · rcases put_get hl with ⟨rfl, q⟩ | ⟨n2, q2⟩
      · cases q
      · rw [List.getElem?_set_ne (fun z => n1 z.symm)] at e1
        rw [List.getElem?_set_ne (fun z => n2 z.symm)] at e2
        exact s.sep j l dj dl a q1 q2 e1 e2
/-- a slot takes a list of its own -/
theorem Sr.setO {i : Nat} {a : Addr} (s : Sr A B Hb H σ c) (hi : i < c.r.length) (h : FrO A B Hb H d v a) (no : ∀ (i : Nat) (d' : D), c.r[i]? = some (some (true, d')) → σ[i]? ≠ some (some (V.ref a))) :
    Sr A B Hb H (σ.set i (some v)) (c.put i (some (true, d))) := by
  have ls : i < σ.length := by rw [← s.len]; exact hi
  obtain ⟨o, h1, h2, h3, h4, h5, h6, h8⟩ := h
  subst h1
  refine ⟨s.fin, by simp [Cfg.put, s.len], fun j e hj => ?_, fun j e hj => ?_, fun j l dj dl b hj hl e1 e2 => ?_, fun p hp => ?_⟩
  rotate_right
  · obtain ⟨g1, g2, g3⟩ := s.pr p hp
    refine ⟨g1, g2, fun j d hj z => ?_⟩
    rcases put_get hj with ⟨rfl, q⟩ | ⟨n, q⟩
    · rw [List.getElem?_set_self ls] at z
      cases z
      exact h8 hp
    · rw [List.getElem?_set_ne (fun z => n z.symm)] at z
      exact g3 j d q z
  · rcases put_get hj with ⟨rfl, q⟩ | ⟨n, q⟩
    · cases q
    · obtain ⟨w, g1, g2⟩ := s.sh j e q
      exact ⟨w, by rw [List.getElem?_set_ne (fun z => n z.symm)]; exact g1, g2⟩
  · rcases put_get hj with ⟨rfl, q⟩ | ⟨n, q⟩
    · cases q
      exact ⟨a, o, List.getElem?_set_self ls, h2, h3, h4, h5, h6⟩
    · obtain ⟨b, u, g1, g2⟩ := s.ow j e q
      exact ⟨b, u, by rw [List.getElem?_set_ne (fun z => n z.symm)]; exact g1, g2⟩
  · rcases put_get hj with ⟨rfl, q⟩ | ⟨n1, q1⟩
    · rw [List.getElem?_set_self ls] at e1
      cases e1
      rcases put_get hl with ⟨rfl, q⟩ | ⟨n2, q2⟩
      · rfl
      · rw [List.getElem?_set_ne (fun z => n2 z.symm)] at e2
        exact absurd e2 (no l _ q2)
    · rw [List.getElem?_set_ne (fun z => n1 z.symm)] at e1
      rcases put_get hl with ⟨rfl, q⟩ | ⟨n2, q2⟩
      · rw [List.getElem?_set_self ls] at e2
        cases e2
        exact absurd e1 (no j _ q1)
      · rw [List.getElem?_set_ne (fun z => n2 z.symm)] at e2
        exact s.sep j l dj dl b q1 q2 e1 e2
/-- a slot is forgotten; the frame's slot itself stays -/
theorem Sr.drop (i : Nat) (s : Sr A B Hb H σ c) : Sr A B Hb H σ (c.put i none) := by
  refine ⟨s.fin, by simp [Cfg.put, s.len], fun j e hj => ?_, fun j e hj => ?_, fun j l dj dl a hj hl e1 e2 => ?_, fun p hp => ?_⟩
  rotate_right
  · obtain ⟨g1, g2, g3⟩ := s.pr p hp
    refine ⟨g1, g2, fun j d hj z => ?_⟩
    rcases put_get hj with ⟨rfl, q⟩ | ⟨n, q⟩
    · cases q
    · exact g3 j d q z
  · rcases put_get hj with ⟨rfl, q⟩ | ⟨n, q⟩
    · cases q
    · exact s.sh j e q
  · rcases put_get hj with ⟨rfl, q⟩ | ⟨n, q⟩
    · cases q
    · exact s.ow j e q
  · rcases put_get hj with ⟨rfl, q⟩ | ⟨n1, q1⟩
    · cases q
    · rcases put_get hl with ⟨rfl, q⟩ | ⟨n2, q2⟩
      · cases q
      · exact s.sep j l dj dl a q1 q2 e1 e2
/-- a list of a slot's own becomes shared -/
theorem Sr.share {i : Nat} (s : Sr A B Hb H σ c) (h : c.r[i]? = some (some (true, d))) : ∃ (a : Addr) (Hb' : Hp), σ[i]? = some (some (V.ref a)) ∧ Sr A B Hb' H σ (c.put i (some (false, d))) ∧ Same Hb Hb' ∧ Rep A Hb' d (V.ref a) := by
  obtain ⟨a, o, h1, h2, h3, h4, h5, h6⟩ := s.ow i d h
  have hi : i < c.r.length := (List.getElem?_eq_some_iff.mp h).1
  have s1 := s.drop i
  have s2 := s1.frz h2 h4 h5 h6 (fun z => (s.pr a z).2.2 i d h h1) h3.notb fun j e hj => by
    rcases put_get hj with ⟨rfl, q⟩ | ⟨n, q⟩
    · cases q
    · exact fun z => n (s.sep j i e d a q h z h1)
  have s3 := s2.setS (i := i) (by simpa [Cfg.put] using hi) (h3.rep h4)
  have es : σ.set i (some (.ref a)) = σ := by
    apply List.ext_getElem?
    intro j
    by_cases hj : j = i
    · subst hj
      rw [List.getElem?_set_self (by rw [← s.len]; exact hi), h1]
    · rw [List.getElem?_set_ne (fun z => hj z.symm)]
  have ec : (c.put i none).put i (some (false, d)) = c.put i (some (false, d)) := by simp [Cfg.put]
  rw [es, ec] at s3
  exact ⟨a, upd Hb a o, h1, s3, same_upd h4, h3.rep h4⟩
end
end DL
namespace DL
open PySem PySem.Spec PyProof.Rows L2

/-! ### what an expression comes to -/
/-- an error: its class, what it keeps -/
abbrev XD := Nat × Option D
inductive ER where
  | ok (k : Kd) (d : D) (c : Cfg) | exc (x : XD) (c : Cfg) | bad
abbrev EF := Cfg → ER
def ER.bind (r : ER) (f : Kd → D → Cfg → ER) : ER := match r with
  | .ok k d c => f k d c
  | .exc x W => .exc x W
  | .bad => .bad
@[simp] theorem bind_ok {k d c} {f : Kd → D → Cfg → ER} : (ER.ok k d c).bind f = f k d c := rfl
@[simp] theorem bind_exc {x W} {f : Kd → D → Cfg → ER} : (ER.exc x W).bind f = .exc x W := rfl
@[simp] theorem bind_bad {f : Kd → D → Cfg → ER} : ER.bad.bind f = .bad := rfl
def ExcAt (A : Am) (Hb : Hp) (x : XD) (cls : Value) (dd : Option Addr) : Prop := cls = .ref (A.cl x.1) ∧ match x.2 with
  | none => dd = none
  | some d => ∃ (a : Addr) (v : V), dd = some a ∧ Hb a = some (.xd [("at", v)]) ∧ Rep A Hb d v
def ExcW (A : Am) (B : Bs) (E : XK) (x : XD) (W : Wd) : Prop := ∀ (cls : Value) (dd : Option Addr) (Hb' H' : Hp), Fin A B Hb' H' W → ExcAt A Hb' x cls dd → E cls dd H'
/-- what a frame lets out, by its slots -/
abbrev XS := L2.St → XK
/-- .. of a frame whose slots are known -/
def ExcC (A : Am) (B : Bs) (E : XK) (Hb : Hp) (σ : L2.St) (x : XD) (c : Cfg) : Prop := ∀ (cls : Value) (dd : Option Addr) (Hb' H' : Hp), Same Hb Hb' → Sr A B Hb' H' σ c → ExcAt A Hb' x cls dd → E cls dd H'
theorem ExcC.mono {A : Am} {B : Bs} {E : XK} {Hb Hb1 : Hp} {σ : L2.St} {x : XD} {c : Cfg} (s : Same Hb Hb1) (h : ExcC A B E Hb σ x c) : ExcC A B E Hb1 σ x c := fun cls dd Hb' H' e r z => h cls dd Hb' H' (s.trans e) r z
/-- .. out of an expression -/
def ExcE (A : Am) (B : Bs) (E : XK) (Hb H : Hp) (σ : L2.St) (x : XD) (c : Cfg) : Prop := ∀ (cls : Value) (dd : Option Addr) (Hb' H' : Hp), Stp A Hb H Hb' H' → Sr A B Hb' H' σ c → ExcAt A Hb' x cls dd → E cls dd H'
theorem ExcE.mono {A : Am} {B : Bs} {E : XK} {Hb H Hb1 H1 : Hp} {σ : L2.St} {x : XD} {c : Cfg} (s : Stp A Hb H Hb1 H1) (h : ExcE A B E Hb H σ x c) : ExcE A B E Hb1 H1 σ x c := fun cls dd Hb' H' e r z => h cls dd Hb' H' (s.trans e) r z
theorem ExcC.toE {A : Am} {B : Bs} {E : XK} {Hb H : Hp} {σ : L2.St} {x : XD} {c : Cfg} (h : ExcC A B E Hb σ x c) : ExcE A B E Hb H σ x c := fun cls dd Hb' H' e r z => h cls dd Hb' H' e.b r z
def EPost (A : Am) (B : Bs) (E : XS) (Hb H : Hp) (σ : L2.St) (Q : VK) : ER → Prop
  | .ok k d c' => ∀ (v : V) (Hb' H' : Hp), Sr A B Hb' H' σ c' → Stp A Hb H Hb' H' → RepK A B Hb' H' σ c' k d v → Q v H'
  | .exc x c' => ExcE A B (E σ) Hb H σ x c'
  | .bad => False
def rdE (A : Am) (B : Bs) (E : XS) (f : EF) : TE := fun σ H Q => ∃ (Hb : Hp) (c : Cfg), Sr A B Hb H σ c ∧ EPost A B E Hb H σ Q (f c)
def TPost (A : Am) (B : Bs) (E : XS) (Hb H : Hp) (σ : L2.St) (Q : Bool → Hp → Prop) : ER → Prop
  | .ok _ d c' => ∃ b, d = .bl b ∧ ∀ (Hb' H' : Hp), Sr A B Hb' H' σ c' → Stp A Hb H Hb' H' → Q b H'
  | .exc x c' => ExcE A B (E σ) Hb H σ x c'
  | .bad => False
def rdT (A : Am) (B : Bs) (E : XS) (f : EF) : TT := fun σ H Q => ∃ (Hb : Hp) (c : Cfg), Sr A B Hb H σ c ∧ TPost A B E Hb H σ Q (f c)
def DE (X : Cx) (A : Am) (B : Bs) (E : XS) (e : Expr) (f : EF) : Prop := PE X e (rdE A B E f)
def DT (X : Cx) (A : Am) (B : Bs) (E : XS) (e : Expr) (f : EF) : Prop := PT X e (rdT A B E f)
theorem PE.imp {X : Cx} {e : Expr} {t t' : TE} (h : PE X e t) (i : ∀ σ H Q, t' σ H Q → t σ H Q) : PE X e t' := ⟨fun pins s σ H Q I q => h.run pins s σ H Q I (i σ H Q q)⟩
theorem PT.imp {X : Cx} {e : Expr} {t t' : TT} (h : PT X e t) (i : ∀ σ H Q, t' σ H Q → t σ H Q) : PT X e t' := ⟨fun pins s σ H Q I q => h.run pins s σ H Q I (i σ H Q q)⟩
theorem PA.imp {X : Cx} {es : List Expr} {t t' : TA} (h : PA X es t) (i : ∀ σ H Q, t' σ H Q → t σ H Q) : PA X es t' := ⟨fun p pins s σ H Q I q => h.run p pins s σ H Q I (i σ H Q q)⟩
theorem PS.imp {X : Cx} {st : Stmt} {t t' : TS} (h : PS X st t) (i : ∀ D σ H, t' D σ H → t D σ H) : PS X st t' := ⟨fun pins s σ H D I q => h.run pins s σ H D I (i D σ H q)⟩
theorem PSs.imp {X : Cx} {st : List Stmt} {t t' : TS} (h : PSs X st t) (i : ∀ D σ H, t' D σ H → t D σ H) : PSs X st t' := ⟨fun pins s σ H D I q => h.run pins s σ H D I (i D σ H q)⟩

section
variable {X : Cx} {A : Am} {B : Bs} {E : XS} {Hb H Hb1 H1 : Hp} {σ : List (Option V)} {c c1 : Cfg} {Q : VK} {r : ER} {fa fb : EF}
theorem EPost.mono (s : Stp A Hb H Hb1 H1) (h : EPost A B E Hb H σ Q r) : EPost A B E Hb1 H1 σ Q r := by
  cases r with
  | ok k d c' => exact fun v Hb' H' s1 t k => h v Hb' H' s1 (s.trans t) k
  | exc x c' => exact ExcE.mono s h
  | bad => exact h
theorem TPost.mono {Q : Bool → Hp → Prop} (s : Stp A Hb H Hb1 H1) (h : TPost A B E Hb H σ Q r) : TPost A B E Hb1 H1 σ Q r := by
  cases r with
  | ok k d c' =>
    obtain ⟨b, e, g⟩ := h
    exact ⟨b, e, fun Hb' H' s1 t => g Hb' H' s1 (s.trans t)⟩
  | exc x c' => exact ExcE.mono s h
  | bad => exact h
/-- first this, then what follows -/
theorem rd_then {K : Kd → D → Cfg → ER} {Q' : VK} (s : Sr A B Hb H σ c) (h : EPost A B E Hb H σ Q ((fa c).bind K))
    (n : ∀ k d c1 v Hb1 H1, fa c = .ok k d c1 → Sr A B Hb1 H1 σ c1 → Stp A Hb H Hb1 H1 → RepK A B Hb1 H1 σ c1 k d v → EPost A B E Hb1 H1 σ Q (K k d c1) → Q' v H1) : rdE A B E fa σ H Q' := by
  refine ⟨Hb, c, s, ?_⟩
  cases e : fa c with
  | ok k d c1 =>
    rw [e] at h
    exact fun v Hb1 H1 s1 t k1 => n k d c1 v Hb1 H1 e s1 t k1 (h.mono t)
  | exc x W =>
    rw [e] at h
    exact h
  | bad =>
    rw [e] at h
    exact h
theorem rd_thenT {K : Kd → D → Cfg → ER} {Q : Bool → Hp → Prop} {Q' : VK} (s : Sr A B Hb H σ c) (h : TPost A B E Hb H σ Q ((fa c).bind K))
    (n : ∀ k d c1 v Hb1 H1, fa c = .ok k d c1 → Sr A B Hb1 H1 σ c1 → Stp A Hb H Hb1 H1 → RepK A B Hb1 H1 σ c1 k d v → TPost A B E Hb1 H1 σ Q (K k d c1) → Q' v H1) : rdE A B E fa σ H Q' := by
  refine ⟨Hb, c, s, ?_⟩
  cases e : fa c with
  | ok k d c1 =>
    rw [e] at h
    exact fun v Hb1 H1 s1 t k1 => n k d c1 v Hb1 H1 e s1 t k1 (h.mono t)
  | exc x W =>
    rw [e] at h
    exact h
  | bad =>
    rw [e] at h
    exact h
/-- first a test, then what follows -/
theorem rt_then {K : Bool → Cfg → ER} {Q' : Bool → Hp → Prop} (s : Sr A B Hb H σ c) (h : EPost A B E Hb H σ Q ((fa c).bind fun _ d c1 => match d with | .bl b => K b c1 | _ => .bad))
    (n : ∀ b c1 Hb1 H1, Sr A B Hb1 H1 σ c1 → Stp A Hb H Hb1 H1 → EPost A B E Hb1 H1 σ Q (K b c1) → Q' b H1) : rdT A B E fa σ H Q' := by
  refine ⟨Hb, c, s, ?_⟩
  cases e : fa c with
  | ok k d c1 =>
    rw [e] at h
    cases d with
    | bl b => exact ⟨b, rfl, fun Hb1 H1 s1 t => n b c1 Hb1 H1 s1 t (h.mono t)⟩
    | _ => exact False.elim h
  | exc x W =>
    rw [e] at h
    exact h
  | bad =>
    rw [e] at h
    exact h
theorem rt_thenT {K : Bool → Cfg → ER} {Q Q' : Bool → Hp → Prop} (s : Sr A B Hb H σ c) (h : TPost A B E Hb H σ Q ((fa c).bind fun _ d c1 => match d with | .bl b => K b c1 | _ => .bad))
    (n : ∀ b c1 Hb1 H1, Sr A B Hb1 H1 σ c1 → Stp A Hb H Hb1 H1 → TPost A B E Hb1 H1 σ Q (K b c1) → Q' b H1) : rdT A B E fa σ H Q' := by
  refine ⟨Hb, c, s, ?_⟩
  cases e : fa c with
  | ok k d c1 =>
    rw [e] at h
    cases d with
    | bl b => exact ⟨b, rfl, fun Hb1 H1 s1 t => n b c1 Hb1 H1 s1 t (h.mono t)⟩
    | _ => exact False.elim h
  | exc x W =>
    rw [e] at h
    exact h
  | bad =>
    rw [e] at h
    exact h

/-! ### names, constants -/
def evV (i : Nat) : EF := fun c => match c.r[i]? with
  | some (some (false, d)) => .ok .st d c
  | some (some (true, d)) => .ok .st d (c.put i (some (false, d)))
  | _ => .bad
def evB (i : Nat) : EF := fun c => match c.r[i]? with
  | some (some (_, d)) => .ok .bo d c
  | _ => .bad
def evM (i : Nat) : EF := fun c => match c.r[i]? with
  | some (some (false, d)) => .ok .st d c
  | some (some (true, d)) => .ok .fr d (c.put i none)
  | _ => .bad
def evC (d : D) : EF := fun c => .ok .st d c
theorem de_var {i : Nat} {e : Expr} (h : PE X e (tVar i)) : DE X A B E e (evV i) := PE.imp h fun σ H Q ⟨Hb, c, s, q⟩ => by
  unfold evV at q
  split at q
  · rename_i d e
    obtain ⟨v, h1, h2⟩ := s.sh i d e
    exact ⟨v, h1, q v Hb H s .refl h2⟩
  · rename_i d e
    obtain ⟨a, Hb', h1, s1, h2, h3⟩ := s.share e
    exact ⟨_, h1, q _ Hb' H s1 ⟨h2, .refl _⟩ h3⟩
  · exact False.elim q
theorem de_bor {i : Nat} {e : Expr} (h : PE X e (tVar i)) : DE X A B E e (evB i) := PE.imp h fun σ H Q ⟨Hb, c, s, q⟩ => by
  unfold evB at q
  split at q
  · rename_i b d e
    cases b with
    | false =>
      obtain ⟨v, h1, h2⟩ := s.sh i d e
      exact ⟨v, h1, q v Hb H s .refl (.inl h2)⟩
    | true =>
      obtain ⟨a, o, h1, h2, h3, h4, h5, h6⟩ := s.ow i d e
      exact ⟨_, h1, q _ Hb H s .refl (.inr ⟨a, o, rfl, h2, h3, h5⟩)⟩
  · exact False.elim q
theorem de_mov {i : Nat} {e : Expr} (h : PE X e (tVar i)) : DE X A B E e (evM i) := PE.imp h fun σ H Q ⟨Hb, c, s, q⟩ => by
  unfold evM at q
  split at q
  · rename_i d e
    obtain ⟨v, h1, h2⟩ := s.sh i d e
    exact ⟨v, h1, q v Hb H s .refl h2⟩
  · rename_i d e
    obtain ⟨a, o, h1, h2, h3, h4, h5, h6⟩ := s.ow i d e
    refine ⟨_, h1, q _ Hb H (s.drop i) .refl ⟨a, ⟨o, rfl, h2, h3, h4, h5, h6, fun z => (s.pr a z).2.2 i d e h1⟩, fun j e' hj => ?_⟩⟩
    rcases put_get hj with ⟨rfl, z⟩ | ⟨n, z⟩
    · cases z
    · exact fun z2 => n (s.sep j i e' d a z e z2 h1)
  · exact False.elim q
theorem de_c {e : Expr} {v : V} {d : D} (h : PE X e (tC v)) (r : ∀ Hb, Rep A Hb d v) : DE X A B E e (evC d) := PE.imp h fun σ H Q ⟨Hb, c, s, q⟩ => q v Hb H s .refl (r Hb)
theorem de_int {i j pos} : DE X A B E (.Constant (.int i) j pos) (evC (.int i)) := de_c pe_int fun _ => rep_int.mpr rfl
theorem de_bl {b j pos} : DE X A B E (.Constant (.bool b) j pos) (evC (.bl b)) := de_c pe_bl fun _ => rep_bl.mpr rfl
theorem de_non {j pos} : DE X A B E (.Constant .none j pos) (evC .non) := de_c pe_non fun _ => rep_non.mpr rfl
theorem de_str {x j pos} : DE X A B E (.Constant (.str x) j pos) (evC (.str x)) := de_c pe_str fun _ => rep_str.mpr rfl

/-! ### operators -/
/-- a two-place operation told by data -/
def OpS (A : Am) (r : R2) (g : D → D → Option (Kd × D)) : Prop := ∀ (B : Bs) (Hb H : Hp) (σ : List (Option V)) (c : Cfg) (da db : D) (x y : V) (k : Kd) (d : D) (Q : VK), Sr A B Hb H σ c → RepO A Hb H da x → RepO A Hb H db y → g da db = some (k, d) →
  (∀ v Hb' H', Sr A B Hb' H' σ c → Stp A Hb H Hb' H' → RepK A B Hb' H' σ c k d v → Q v H') → r x y H Q
def OpD (X : Cx) (A : Am) (f : Value → Value → Sem Value) (g : D → D → Option (Kd × D)) : Prop := ∃ r, OpR X f r ∧ OpS A r g
def ofO (c : Cfg) : Option (Kd × D) → ER
  | some (k, d) => .ok k d c
  | none => .bad
@[simp] theorem ofO_some {c k d} : ofO c (some (k, d)) = .ok k d c := rfl
@[simp] theorem ofO_none {c} : ofO c none = .bad := rfl
def ev2 (g : D → D → Option (Kd × D)) (fa fb : EF) : EF := fun c => (fa c).bind fun _ da c1 => (fb c1).bind fun _ db c2 => ofO c2 (g da db)
theorem OpD.or {f : Value → Value → Sem Value} {g g' : D → D → Option (Kd × D)} (h : OpD X A f g) (h' : OpD X A f g') : OpD X A f (fun a b => (g a b).orElse fun _ => g' a b) := by
  obtain ⟨r, h1, h2⟩ := h
  obtain ⟨r', h1', h2'⟩ := h'
  refine ⟨_, h1.or h1', fun B Hb H σ c da db x y k d Q s hx hy e q => ?_⟩
  dsimp only at e
  cases eg : g da db with
  | some p =>
    rw [eg] at e
    cases e
    exact .inl (h2 B Hb H σ c da db x y k d Q s hx hy eg q)
  | none =>
    rw [eg] at e
    exact .inr (h2' B Hb H σ c da db x y k d Q s hx hy e q)
theorem de_tOp {e : Expr} {r : R2} {g : D → D → Option (Kd × D)} {ta tb : TE} (hs : OpS A r g) (h : PE X e (tOp r (rdE A B E fa) (rdE A B E fb))) : DE X A B E e (ev2 g fa fb) :=
  PE.imp h fun σ H Q ⟨Hb, c, s, q⟩ => by
    refine rd_then s q fun k d c1 v Hb1 H1 _ s1 t1 k1 q1 => ?_
    refine rd_then s1 q1 fun k' d' c2 v' Hb2 H2 _ s2 t2 k2 q2 => ?_
    cases eg : g d d' with
    | none =>
      rw [eg] at q2
      exact False.elim q2
    | some p =>
      obtain ⟨kk, dd⟩ := p
      rw [eg] at q2
      exact hs B Hb2 H2 σ c2 d d' v v' kk dd Q s2 ((k1.o).mono t2) k2.o eg q2
theorem de_op {op : Operator} {g : D → D → Option (Kd × D)} {a b : Expr} {pos : Pos} (ho : OpD X A (binaryOp op) g) (ha : DE X A B E a fa) (hb : DE X A B E b fb) : DE X A B E (.BinOp a op b pos) (ev2 g fa fb) := by
  obtain ⟨r, h1, h2⟩ := ho
  exact de_tOp (ta := rdE A B E fa) (tb := rdE A B E fb) h2 (pe_op h1 ha hb)
theorem de_cmp {op : CmpOp} {g : D → D → Option (Kd × D)} {a b : Expr} {pos : Pos} (ho : OpD X A (compareOp op) g) (ha : DE X A B E a fa) (hb : DE X A B E b fb) (hm : behindInMarks op b = false) : DE X A B E (.Compare a [op] [b] pos) (ev2 g fa fb) := by
  obtain ⟨r, h1, h2⟩ := ho
  exact de_tOp (ta := rdE A B E fa) (tb := rdE A B E fb) h2 (pe_cmpR h1 ha hb hm)
/-- a test by a value that is a bool -/
theorem dt_of {e : Expr} {fa : EF} (h : PT X e (tB (rdE A B E fa))) : DT X A B E e fa := PT.imp h fun σ H Q ⟨Hb, c, s, q⟩ => by
  refine ⟨Hb, c, s, ?_⟩
  cases ef : fa c with
  | ok k d c1 =>
    rw [ef] at q
    obtain ⟨b, rfl, g⟩ := q
    refine fun v Hb' H' s1 t1 k1 => ⟨b, ?_, g Hb' H' s1 t1⟩
    rcases k1.o with z | ⟨a, o, _, _, z, _⟩
    · exact rep_bl.mp z
    · exact z.elim
  | exc x W =>
    rw [ef] at q
    exact q
  | bad =>
    rw [ef] at q
    exact q
theorem dt_cmp {op : CmpOp} {g : D → D → Option (Kd × D)} {a b : Expr} {pos : Pos} (ho : OpD X A (compareOp op) g) (ha : DE X A B E a fa) (hb : DE X A B E b fb) (hm : behindInMarks op b = false) : DT X A B E (.Compare a [op] [b] pos) (ev2 g fa fb) := by
  obtain ⟨r, h1, h2⟩ := ho
  refine dt_of (PT.imp (pt_cmpR h1 ha hb hm) fun σ H Q z => ?_)
  obtain ⟨Hb, c, s, q⟩ := z
  show tOp r (rdE A B E fa) (rdE A B E fb) σ H _
  refine rd_then s q fun k d c1 v Hb1 H1 _ s1 t1 k1 q1 => ?_
  refine rd_then s1 q1 fun k' d' c2 v' Hb2 H2 _ s2 t2 k2 q2 => ?_
  cases eg : g d d' with
  | none =>
    rw [eg] at q2
    exact False.elim q2
  | some p =>
    obtain ⟨kk, dd⟩ := p
    rw [eg] at q2
    exact h2 B Hb2 H2 σ c2 d d' v v' kk dd _ s2 ((k1.o).mono t2) k2.o eg q2
end
end DL
namespace DL
open PySem PySem.Spec PyProof.Rows L2

/-! ### data and the library's data -/
mutual
def D.py : D → Option PyData
  | .non => some .none
  | .bl b => some (.bool b)
  | .int i => some (.int i)
  | .str x => some (.str x)
  | .tup ds => (pyL ds).map PyData.tuple
  | .lst ds => (pyL ds).map PyData.list
  | .obj _ _ _ => none
  | .deal => none
  | .err _ _ => none
  | .dK _ _ => none
  | .dT _ _ => none
def pyL : List D → Option (List PyData)
  | [] => some []
  | d :: ds => match D.py d with
    | some p => (pyL ds).map (p :: ·)
    | none => none
end
mutual
theorem Rep.dp {A : Am} {H : Hp} : ∀ (d : D) (v : V) (p : PyData), Rep A H d v → d.py = some p → Dp A.K H v p
  | .non, v, p, h, e => by
    unfold D.py at e; cases e
    rw [rep_non.mp h]; exact .non
  | .bl b, v, p, h, e => by
    unfold D.py at e; cases e
    rw [rep_bl.mp h]; exact .bl b
  | .int i, v, p, h, e => by
    unfold D.py at e; cases e
    rw [rep_int.mp h]; exact .int i
  | .str x, v, p, h, e => by
    unfold D.py at e; cases e
    rw [rep_str.mp h]; exact .str x
  | .tup ds, v, p, h, e => by
    unfold D.py at e
    obtain ⟨a, xs, rfl, h2, h3⟩ := rep_tup.mp h
    cases q : pyL ds with
    | none => rw [q] at e; cases e
    | some ps =>
      rw [q] at e; cases e
      exact .tup (SqT.of h2) (RepL.dp ds xs ps h3 q)
  | .lst ds, v, p, h, e => by
    unfold D.py at e
    obtain ⟨a, xs, rfl, h2, h3⟩ := rep_lst.mp h
    cases q : pyL ds with
    | none => rw [q] at e; cases e
    | some ps =>
      rw [q] at e; cases e
      exact .lst (SqL.of h2) (RepL.dp ds xs ps h3 q)
  | .obj _ _ _, v, p, h, e => by unfold D.py at e; cases e
  | .deal, v, p, h, e => by unfold D.py at e; cases e
  | .err _ _, v, p, h, e => by unfold D.py at e; cases e
  | .dK _ _, v, p, h, e => by unfold D.py at e; cases e
  | .dT _ _, v, p, h, e => by unfold D.py at e; cases e
theorem RepL.dp {A : Am} {H : Hp} : ∀ (ds : List D) (vs : List V) (ps : List PyData), RepL A H ds vs → pyL ds = some ps → DpAll A.K H vs ps
  | [], vs, ps, h, e => by
    unfold pyL at e; cases e
    rw [repL_nil.mp h]; exact .nil
  | d :: ds, vs, ps, h, e => by
    obtain ⟨x, r, rfl, hx, t⟩ := repL_cons.mp h
    unfold pyL at e
    cases q : d.py with
    | none => rw [q] at e; cases e
    | some p =>
      rw [q] at e
      cases q2 : pyL ds with
      | none => rw [q2] at e; cases e
      | some qs =>
        rw [q2] at e; cases e
        exact .cons (Rep.dp d x p hx q) (RepL.dp ds r qs t q2)
end
@[simp] theorem py_non : D.py .non = some .none := by unfold D.py; rfl
@[simp] theorem py_bl {b} : D.py (.bl b) = some (.bool b) := by unfold D.py; rfl
@[simp] theorem py_int {i} : D.py (.int i) = some (.int i) := by unfold D.py; rfl
@[simp] theorem py_str {x} : D.py (.str x) = some (.str x) := by unfold D.py; rfl
@[simp] theorem py_tup {ds} : D.py (.tup ds) = (pyL ds).map PyData.tuple := by conv => lhs; unfold D.py
@[simp] theorem py_lst {ds} : D.py (.lst ds) = (pyL ds).map PyData.list := by conv => lhs; unfold D.py
@[simp] theorem pyL_nil : pyL [] = some [] := by unfold pyL; rfl
@[simp] theorem pyL_cons {d ds} : pyL (d :: ds) = match D.py d with | some p => (pyL ds).map (p :: ·) | none => none := by conv => lhs; unfold pyL
section
variable {X : Cx} {A : Am} {B : Bs} {E : XS} {Hb H Hb1 H1 : Hp} {σ : List (Option V)} {c c1 : Cfg} {r : ER} {fa fb : EF} {d : D} {v : V}
/-- an operand, seen in the whole heap -/
theorem RepO.whole (f : Same Hb H) (h : RepO A Hb H d v) : Rep A H d v := by
  rcases h with h | ⟨a, o, rfl, h2, h3, h4⟩
  · exact Rep.mono f _ _ h
  · cases d with
    | lst ds =>
      obtain ⟨xs, rfl, h5⟩ := h3
      exact rep_lst.mpr ⟨a, xs, rfl, h2, RepL.mono f _ _ h5⟩
    | dK ks ds =>
      obtain ⟨xs, rfl, h5, h6⟩ := h3
      exact rep_dK.mpr ⟨a, xs, rfl, h2, h5, RepL.mono f _ _ h6⟩
    | dT ks ds =>
      obtain ⟨xs, rfl, h5, h6⟩ := h3
      exact rep_dT.mpr ⟨a, xs, rfl, h2, h5, RepL.mono f _ _ h6⟩
    | obj C ns ds =>
      obtain ⟨dx, fs, rfl, h5, h6⟩ := h3
      unfold Rep
      exact ⟨a, dx, fs, rfl, h2, h5, RepL.mono f _ _ h6⟩
    | _ => exact h3.elim
theorem Sr.same (s : Sr A B Hb H σ c) : Same Hb H := s.fin.hr.same
theorem RepO.int {i : Int} (h : RepO A Hb H (.int i) v) : v = .int i := by
  rcases h with h | ⟨a, o, _, _, z, _⟩
  · exact rep_int.mp h
  · exact z.elim
theorem RepO.bl {i : Bool} (h : RepO A Hb H (.bl i) v) : v = .bl i := by
  rcases h with h | ⟨a, o, _, _, z, _⟩
  · exact rep_bl.mp h
  · exact z.elim
theorem RepO.str {i : Str} (h : RepO A Hb H (.str i) v) : v = .str i := by
  rcases h with h | ⟨a, o, _, _, z, _⟩
  · exact rep_str.mp h
  · exact z.elim
theorem RepO.non (h : RepO A Hb H .non v) : v = .non := by
  rcases h with h | ⟨a, o, _, _, z, _⟩
  · exact rep_non.mp h
  · exact z.elim
theorem RepO.tup {ds : List D} (h : RepO A Hb H (.tup ds) v) : ∃ a xs, v = .ref a ∧ Hb a = some (.tup xs) ∧ RepL A Hb ds xs := by
  rcases h with h | ⟨a, o, _, _, z, _⟩
  · exact rep_tup.mp h
  · exact z.elim
theorem RepO.lst {ds : List D} (f : Same Hb H) (h : RepO A Hb H (.lst ds) v) : ∃ a xs, v = .ref a ∧ H a = some (.lst xs) ∧ RepL A Hb ds xs := by
  rcases h with h | ⟨a, o, h1, h2, z, _⟩
  · obtain ⟨a, xs, h1, h2, h3⟩ := rep_lst.mp h
    exact ⟨a, xs, h1, f _ _ h2, h3⟩
  · obtain ⟨xs, rfl, h5⟩ := z
    exact ⟨a, xs, h1, h2, h5⟩
theorem RepO.dK {ks : List Key} {ds : List D} (f : Same Hb H) (h : RepO A Hb H (.dK ks ds) v) : ∃ a kvs, v = .ref a ∧ H a = some (.dK kvs) ∧ kvs.map Prod.fst = ks ∧ RepL A Hb ds (kvs.map Prod.snd) := by
  rcases h with h | ⟨a, o, h1, h2, z, _⟩
  · obtain ⟨a, xs, h1, h2, h3⟩ := rep_dK.mp h
    exact ⟨a, xs, h1, f _ _ h2, h3⟩
  · obtain ⟨xs, rfl, h5⟩ := z
    exact ⟨a, xs, h1, h2, h5⟩
theorem RepO.dT {ks : List (List Key)} {ds : List D} (f : Same Hb H) (h : RepO A Hb H (.dT ks ds) v) : ∃ a kvs, v = .ref a ∧ H a = some (.dT kvs) ∧ kvs.map Prod.fst = ks ∧ RepL A Hb ds (kvs.map Prod.snd) := by
  rcases h with h | ⟨a, o, h1, h2, z, _⟩
  · obtain ⟨a, xs, h1, h2, h3⟩ := rep_dT.mp h
    exact ⟨a, xs, h1, f _ _ h2, h3⟩
  · obtain ⟨xs, rfl, h5⟩ := z
    exact ⟨a, xs, h1, h2, h5⟩
/-- a new tuple, known for good -/
theorem Sr.newTup {p : Addr} {xs : List V} {ds : List D} (s : Sr A B Hb H σ c) (hp : H p = none) (h : RepL A Hb ds xs) :
    Sr A B (upd Hb p (.tup xs)) (upd H p (.tup xs)) σ c ∧ Stp A Hb H (upd Hb p (.tup xs)) (upd H p (.tup xs)) ∧ Rep A (upd Hb p (.tup xs)) (.tup ds) (.ref p) := by
  have nb := s.fin.hr.freshB hp
  have s1 := s.new (o := .tup xs) hp
  have ow : ∀ i d', c.r[i]? = some (some (true, d')) → σ[i]? ≠ some (some (V.ref p)) := fun i d' h z => by
    obtain ⟨a, o, h1, h2, _⟩ := s.ow i d' h
    rw [h1] at z
    cases z
    rw [hp] at h2
    cases h2
  have np : ¬ B.pr p := fun z => by
    obtain ⟨⟨o, h1, _⟩, _⟩ := s.pr p z
    rw [hp] at h1
    cases h1
  refine ⟨s1.frz upd_same nb (s.fin.hr.fresh hp) (s.fin.h0n hp) np (fun ps z => by cases z) ow, ⟨same_upd nb, .of (same_upd hp)⟩, rep_tup.mpr ⟨p, xs, rfl, upd_same, RepL.mono (same_upd nb) _ _ h⟩⟩
/-- a new list, held by nobody yet -/
theorem Sr.newLst {p : Addr} {xs : List V} {ds : List D} (s : Sr A B Hb H σ c) (hp : H p = none) (h : RepL A Hb ds xs) :
    Sr A B Hb (upd H p (.lst xs)) σ c ∧ Stp A Hb H Hb (upd H p (.lst xs)) ∧ RepK A B Hb (upd H p (.lst xs)) σ c .fr (.lst ds) (.ref p) := by
  have nb := s.fin.hr.freshB hp
  have np : ¬ B.pr p := fun z => by
    obtain ⟨⟨o, h1, _⟩, _⟩ := s.pr p z
    rw [hp] at h1
    cases h1
  refine ⟨s.new hp, ⟨Same.refl _, .of (same_upd hp)⟩, p, ⟨_, rfl, upd_same, ⟨xs, rfl, h⟩, nb, s.fin.hr.fresh hp, s.fin.h0n hp, np⟩, fun i d' h z => ?_⟩
  obtain ⟨a, o, h1, h2, _⟩ := s.ow i d' h
  rw [h1] at z
  cases z
  rw [hp] at h2
  cases h2

theorem rk_int {i : Int} : RepK A B Hb H σ c .st (.int i) (.int i) := (rep_int (A := A) (H := Hb)).mpr rfl
theorem rk_bl {i : Bool} : RepK A B Hb H σ c .st (.bl i) (.bl i) := (rep_bl (A := A) (H := Hb)).mpr rfl
theorem rk_non : RepK A B Hb H σ c .st .non .non := (rep_non (A := A) (H := Hb)).mpr rfl
theorem rk_str {i : Str} : RepK A B Hb H σ c .st (.str i) (.str i) := (rep_str (A := A) (H := Hb)).mpr rfl
/-! ### operators on ints -/
def gI (g : Int → Int → Option D) : D → D → Option (Kd × D)
  | .int i, .int j => (g i j).map fun d => (.st, d)
  | _, _ => none
theorem gI_inv {g : Int → Int → Option D} {da db : D} {k : Kd} {d : D} (h : gI g da db = some (k, d)) : ∃ i j, da = .int i ∧ db = .int j ∧ g i j = some d ∧ k = .st := by
  unfold gI at h
  split at h
  · rename_i i j
    cases q : g i j with
    | none => rw [q] at h; cases h
    | some d' => rw [q] at h; cases h; exact ⟨i, j, rfl, rfl, q, rfl⟩
  · cases h
theorem od_I {f : Value → Value → Sem Value} {C : Int → Int → Prop} {g : Int → Int → V} {gd : Int → Int → Option D} (h : OpR X f (rI C g)) (hg : ∀ i j d, gd i j = some d → C i j ∧ ∀ Hb, Rep A Hb d (g i j)) : OpD X A f (gI gd) := by
  refine ⟨_, h, fun B Hb H σ c da db x y k d Q s hx hy e q => ?_⟩
  obtain ⟨i, j, rfl, rfl, e1, rfl⟩ := gI_inv e
  obtain ⟨h1, h2⟩ := hg i j d e1
  exact ⟨i, j, hx.int, hy.int, h1, q _ Hb H s .refl (h2 Hb)⟩
theorem od_I0 {f : Value → Value → Sem Value} {g : Int → Int → V} {gd : Int → Int → D} (h : OpR X f (rI0 g)) (hg : ∀ i j Hb, Rep A Hb (gd i j) (g i j)) : OpD X A f (gI fun i j => some (gd i j)) := by
  refine ⟨_, h, fun B Hb H σ c da db x y k d Q s hx hy e q => ?_⟩
  obtain ⟨i, j, rfl, rfl, e1, rfl⟩ := gI_inv e
  cases e1
  exact ⟨i, j, hx.int, hy.int, q _ Hb H s .refl (hg i j Hb)⟩
def gAddI := gI fun i j => some (.int (i + j))
def gSubI := gI fun i j => some (.int (i - j))
def mulOk (i j : Int) : Bool := (decide (-(2 ^ 64) < i) && decide (i < 2 ^ 64)) || (decide (-(2 ^ 64) < j) && decide (j < 2 ^ 64)) || decide (i.natAbs.log2 + j.natAbs.log2 < 1000000)
def gMulI := gI fun i j => if mulOk i j then some (.int (i * j)) else none
def fdivOk (j : Int) : Bool := decide (0 < j) && decide (j.natAbs.log2 < 9000)
def gFdiv := gI fun i j => if fdivOk j then some (.int (i / j)) else none
def gMod := gI fun i j => if 0 < j then some (.int (i % j)) else none
def gPow := gI fun i j => if 0 ≤ j ∧ j ≤ 1000000 ∧ i.natAbs < 2 ^ 64 then some (.int (i ^ j.toNat)) else none
def gLt := gI fun i j => some (.bl (decide (i < j)))
def gLe := gI fun i j => some (.bl (decide (i ≤ j)))
def gGt := gI fun i j => some (.bl (decide (j < i)))
def gGe := gI fun i j => some (.bl (decide (j ≤ i)))
theorem od_addI : OpD X A (binaryOp .Add) gAddI := od_I0 op_add fun _ _ _ => rep_int.mpr rfl
theorem od_sub : OpD X A (binaryOp .Sub) gSubI := od_I0 op_sub fun _ _ _ => rep_int.mpr rfl
theorem od_isub : OpD X A (inplaceOp .Sub) gSubI := od_I0 iop_sub fun _ _ _ => rep_int.mpr rfl
theorem od_iaddI : OpD X A (inplaceOp .Add) gAddI := od_I0 iop_add fun _ _ _ => rep_int.mpr rfl
theorem od_lt : OpD X A (compareOp .Lt) gLt := od_I0 op_lt fun _ _ _ => rep_bl.mpr rfl
theorem od_le : OpD X A (compareOp .LtE) gLe := od_I0 op_le fun _ _ _ => rep_bl.mpr rfl
theorem od_gt : OpD X A (compareOp .Gt) gGt := od_I0 op_gt fun _ _ _ => rep_bl.mpr rfl
theorem od_ge : OpD X A (compareOp .GtE) gGe := od_I0 op_ge fun _ _ _ => rep_bl.mpr rfl
theorem od_mod : OpD X A (binaryOp .Mod) gMod := od_I op_mod fun i j d h => by
  split at h
  · rename_i hj
    cases h
    exact ⟨hj, fun _ => rep_int.mpr rfl⟩
  · cases h
theorem od_fdiv : OpD X A (binaryOp .FloorDiv) gFdiv := od_I op_fdivW fun i j d h => by
  split at h
  · rename_i hj
    cases h
    unfold fdivOk at hj
    rw [Bool.and_eq_true] at hj
    exact ⟨⟨of_decide_eq_true hj.1, of_decide_eq_true hj.2⟩, fun _ => rep_int.mpr rfl⟩
  · cases h
theorem od_pow : OpD X A (binaryOp .Pow) gPow := od_I op_pow fun i j d h => by
  split at h
  · rename_i hj
    cases h
    exact ⟨hj, fun _ => rep_int.mpr rfl⟩
  · cases h
theorem od_mulI : OpD X A (binaryOp .Mult) gMulI := by
  refine ⟨_, op_mul.or op_mulW, fun B Hb H σ c da db x y k d Q s hx hy e q => ?_⟩
  obtain ⟨i, j, rfl, rfl, e1, rfl⟩ := gI_inv e
  split at e1
  · rename_i hj
    cases e1
    have qq := q _ Hb H s .refl rk_int
    unfold mulOk at hj
    rw [Bool.or_eq_true, Bool.or_eq_true, Bool.and_eq_true, Bool.and_eq_true] at hj
    rcases hj with (⟨h1, h2⟩ | ⟨h1, h2⟩) | h3
    · exact .inl ⟨i, j, hx.int, hy.int, .inl ⟨of_decide_eq_true h1, of_decide_eq_true h2⟩, qq⟩
    · exact .inl ⟨i, j, hx.int, hy.int, .inr ⟨of_decide_eq_true h1, of_decide_eq_true h2⟩, qq⟩
    · exact .inr ⟨i, j, hx.int, hy.int, (show i.natAbs.log2 + j.natAbs.log2 < 1000000 from of_decide_eq_true h3), qq⟩
  · cases e1
/-! ### tuples, lists, texts put together -/
def big : Nat := 1000000
theorem big_le {n : Nat} (h : n ≤ big) : n ≤ sizeLine := Nat.le_trans h (by rw [sizeLine_eq]; decide)
def gCatT : D → D → Option (Kd × D)
  | .tup a, .tup b => if a.length + b.length ≤ big then some (.st, .tup (a ++ b)) else none
  | _, _ => none
def gCatL : D → D → Option (Kd × D)
  | .lst a, .lst b => if a.length + b.length ≤ big then some (.fr, .lst (a ++ b)) else none
  | _, _ => none
def gRepL : D → D → Option (Kd × D)
  | .lst a, .int k => if -(2 ^ 63) ≤ k ∧ k < 2 ^ 63 ∧ a.length * k.toNat ≤ big then some (.fr, .lst (List.replicate k.toNat a).flatten) else none
  | _, _ => none
theorem RepL.rep {ds : List D} {xs : List V} (h : RepL A Hb ds xs) : ∀ n : Nat, RepL A Hb (List.replicate n ds).flatten (List.replicate n xs).flatten
  | 0 => RepL.nil
  | n + 1 => by
    rw [List.replicate_succ, List.replicate_succ, List.flatten_cons, List.flatten_cons]
    exact h.append (RepL.rep h n)
theorem od_catT : OpD X A (binaryOp .Add) gCatT := by
  refine ⟨_, op_catA, fun B Hb H σ c da db x y k d Q s hx hy e q => ?_⟩
  unfold gCatT at e
  split at e
  · rename_i a b
    split at e
    · rename_i hl
      cases e
      obtain ⟨p1, xs, rfl, h1, h2⟩ := hx.tup
      obtain ⟨p2, ys, rfl, h3, h4⟩ := hy.tup
      have l1 := h2.len
      have l2 := h4.len
      refine ⟨p1, p2, xs, ys, rfl, rfl, SqT.of (s.same _ _ h1), SqT.of (s.same _ _ h3), big_le (by omega), fun e1 => ?_, fun e1 e2 => ?_, fun e1 e2 p hp => ?_⟩
      · subst e1
        have : a = [] := List.eq_nil_of_length_eq_zero (by simpa using l1)
        subst this
        exact q _ Hb H s .refl (rep_tup.mpr ⟨p2, ys, rfl, h3, h4⟩)
      · subst e2
        have : b = [] := List.eq_nil_of_length_eq_zero (by simpa using l2)
        subst this
        refine q _ Hb H s .refl (rep_tup.mpr ⟨p1, xs, rfl, h1, ?_⟩)
        rw [List.append_nil]
        exact h2
      · obtain ⟨s1, t1, r1⟩ := s.newTup hp (h2.append h4)
        exact q _ _ _ s1 t1 r1
    · cases e
  · cases e
theorem od_catL : OpD X A (binaryOp .Add) gCatL := by
  refine ⟨_, op_cat, fun B Hb H σ c da db x y k d Q s hx hy e q => ?_⟩
  unfold gCatL at e
  split at e
  · rename_i a b
    split at e
    · rename_i hl
      cases e
      obtain ⟨p1, xs, rfl, h1, h2⟩ := hx.lst s.same
      obtain ⟨p2, ys, rfl, h3, h4⟩ := hy.lst s.same
      have l1 := h2.len
      have l2 := h4.len
      refine ⟨p1, p2, xs, ys, rfl, rfl, h1, h3, big_le (by omega), fun p hp => ?_⟩
      obtain ⟨s1, t1, r1⟩ := s.newLst hp (h2.append h4)
      exact q _ _ _ s1 t1 r1
    · cases e
  · cases e
theorem od_repL : OpD X A (binaryOp .Mult) gRepL := by
  refine ⟨_, op_rep, fun B Hb H σ c da db x y k d Q s hx hy e q => ?_⟩
  unfold gRepL at e
  split at e
  · rename_i a n
    split at e
    · rename_i hl
      cases e
      obtain ⟨p1, xs, rfl, h1, h2⟩ := hx.lst s.same
      have l1 := h2.len
      refine ⟨p1, n, xs, rfl, hy.int, h1, hl.1, hl.2.1, big_le (by rw [← l1]; exact hl.2.2), fun p hp => ?_⟩
      obtain ⟨s1, t1, r1⟩ := s.newLst hp (h2.rep n.toNat)
      exact q _ _ _ s1 t1 r1
    · cases e
  · cases e
def gAdd : D → D → Option (Kd × D) := fun a b => (gAddI a b).orElse fun _ => (gCatT a b).orElse fun _ => gCatL a b
def gMul : D → D → Option (Kd × D) := fun a b => (gMulI a b).orElse fun _ => gRepL a b
theorem od_add : OpD X A (binaryOp .Add) gAdd := od_addI.or (od_catT.or od_catL)
theorem od_mul : OpD X A (binaryOp .Mult) gMul := od_mulI.or od_repL
@[simp] theorem gAdd_int {i j : Int} : gAdd (.int i) (.int j) = some (.st, .int (i + j)) := rfl
@[simp] theorem gAdd_tup {a b : List D} : gAdd (.tup a) (.tup b) = if a.length + b.length ≤ big then some (.st, .tup (a ++ b)) else none := by
  unfold gAdd gAddI gI gCatT
  by_cases h : a.length + b.length ≤ big <;> simp [h, gCatL]
@[simp] theorem gAdd_lst {a b : List D} : gAdd (.lst a) (.lst b) = if a.length + b.length ≤ big then some (.fr, .lst (a ++ b)) else none := by
  unfold gAdd gAddI gI gCatT gCatL
  simp
@[simp] theorem gSub_int {i j : Int} : gSubI (.int i) (.int j) = some (.st, .int (i - j)) := rfl
@[simp] theorem gMul_int {i j : Int} : gMul (.int i) (.int j) = if mulOk i j then some (.st, .int (i * j)) else none := by
  unfold gMul gMulI gI gRepL
  by_cases h : mulOk i j = true <;> simp [h]
@[simp] theorem gMul_lst {a : List D} {k : Int} : gMul (.lst a) (.int k) = if -(2 ^ 63) ≤ k ∧ k < 2 ^ 63 ∧ a.length * k.toNat ≤ big then some (.fr, .lst (List.replicate k.toNat a).flatten) else none := by
  unfold gMul gMulI gI gRepL
  simp
@[simp] theorem gFdiv_int {i j : Int} : gFdiv (.int i) (.int j) = if fdivOk j then some (.st, .int (i / j)) else none := by
  unfold gFdiv gI
  by_cases h : fdivOk j = true <;> simp [h]
@[simp] theorem gMod_int {i j : Int} : gMod (.int i) (.int j) = if 0 < j then some (.st, .int (i % j)) else none := by
  unfold gMod gI
  by_cases h : 0 < j <;> simp [h]
@[simp] theorem gPow_int {i j : Int} : gPow (.int i) (.int j) = if 0 ≤ j ∧ j ≤ 1000000 ∧ i.natAbs < 2 ^ 64 then some (.st, .int (i ^ j.toNat)) else none := by
  unfold gPow gI
  by_cases h : 0 ≤ j ∧ j ≤ 1000000 ∧ i.natAbs < 2 ^ 64 <;> simp [h]
@[simp] theorem gLt_int {i j : Int} : gLt (.int i) (.int j) = some (.st, .bl (decide (i < j))) := rfl
@[simp] theorem gLe_int {i j : Int} : gLe (.int i) (.int j) = some (.st, .bl (decide (i ≤ j))) := rfl
@[simp] theorem gGt_int {i j : Int} : gGt (.int i) (.int j) = some (.st, .bl (decide (j < i))) := rfl
@[simp] theorem gGe_int {i j : Int} : gGe (.int i) (.int j) = some (.st, .bl (decide (j ≤ i))) := rfl
/-! ### equality, is, in -/
def eqD (a b : D) : Option Bool := match a.py, b.py with
  | some p, some q => if SeqAt.shaped p && SeqAt.shaped q then some (PyData.eqv p q) else none
  | _, _ => none
def gEq (a b : D) : Option (Kd × D) := (eqD a b).map fun b => (.st, .bl b)
def gNe (a b : D) : Option (Kd × D) := (eqD a b).map fun b => (.st, .bl (!b))
theorem eqD_inv {a b : D} {t : Bool} (h : eqD a b = some t) : ∃ p q, a.py = some p ∧ b.py = some q ∧ SeqAt.shaped p = true ∧ SeqAt.shaped q = true ∧ t = PyData.eqv p q := by
  unfold eqD at h
  split at h
  · rename_i p q e1 e2
    split at h
    · rename_i hs
      rw [Bool.and_eq_true] at hs
      cases h
      exact ⟨p, q, e1, e2, hs.1, hs.2, rfl⟩
    · cases h
  · cases h
theorem od_eq (hK : X.K = A.K) (hu : X.A.units + 64 < cLine) : OpD X A (compareOp .Eq) gEq := by
  refine ⟨_, op_eqD hu, fun B Hb H σ c da db x y k d Q s hx hy e q => ?_⟩
  unfold gEq at e
  cases he : eqD da db with
  | none => rw [he] at e; cases e
  | some t =>
    rw [he] at e
    cases e
    obtain ⟨p, p', e1, e2, h1, h2, rfl⟩ := eqD_inv he
    refine ⟨p, p', ?_, ?_, h1, h2, q _ Hb H s .refl rk_bl⟩
    · rw [hK]; exact (hx.whole s.same).dp _ _ _ e1
    · rw [hK]; exact (hy.whole s.same).dp _ _ _ e2
theorem od_ne (hK : X.K = A.K) (hu : X.A.units + 64 < cLine) : OpD X A (compareOp .NotEq) gNe := by
  refine ⟨_, op_neD hu, fun B Hb H σ c da db x y k d Q s hx hy e q => ?_⟩
  unfold gNe at e
  cases he : eqD da db with
  | none => rw [he] at e; cases e
  | some t =>
    rw [he] at e
    cases e
    obtain ⟨p, p', e1, e2, h1, h2, rfl⟩ := eqD_inv he
    refine ⟨p, p', ?_, ?_, h1, h2, q _ Hb H s .refl rk_bl⟩
    · rw [hK]; exact (hx.whole s.same).dp _ _ _ e1
    · rw [hK]; exact (hy.whole s.same).dp _ _ _ e2
def isNon : D → Bool
  | .non => true
  | _ => false
def gIsN (a b : D) : Option (Kd × D) := if isNon b then some (.st, .bl (isNon a)) else none
def gNotN (a b : D) : Option (Kd × D) := if isNon b then some (.st, .bl (!isNon a)) else none
theorem RepO.isNon (h : RepO A Hb H d v) : decide (v = .non) = isNon d := by
  rcases h with h | ⟨a, o, rfl, _, z, _⟩
  · cases d with
    | non => rw [rep_non.mp h]; rfl
    | bl b => rw [rep_bl.mp h]; rfl
    | int b => rw [rep_int.mp h]; rfl
    | str b => rw [rep_str.mp h]; rfl
    | tup ds => obtain ⟨a, xs, rfl, _⟩ := rep_tup.mp h; rfl
    | lst ds => obtain ⟨a, xs, rfl, _⟩ := rep_lst.mp h; rfl
    | dK ks ds => obtain ⟨a, xs, rfl, _⟩ := rep_dK.mp h; rfl
    | dT ks ds => obtain ⟨a, xs, rfl, _⟩ := rep_dT.mp h; rfl
    | obj C ns ds =>
      unfold Rep at h
      obtain ⟨a, dx, fs, rfl, _⟩ := h
      rfl
    | deal =>
      unfold Rep at h
      obtain ⟨w, _, rfl⟩ := h
      rfl
    | err cn es =>
      unfold Rep at h
      obtain ⟨p, fs, _, rfl, _⟩ := h
      rfl
  · cases d with
    | lst ds => rfl
    | dK ks ds => rfl
    | dT ks ds => rfl
    | obj C ns ds => rfl
    | _ => exact z.elim
theorem od_isN : OpD X A (compareOp .Is) gIsN := by
  refine ⟨_, op_isN, fun B Hb H σ c da db x y k d Q s hx hy e q => ?_⟩
  unfold gIsN at e
  split at e
  · rename_i hb
    cases e
    have : db = .non := by cases db <;> first | rfl | cases hb
    subst this
    refine ⟨hy.non, ?_⟩
    rw [hx.isNon]
    exact q _ Hb H s .refl rk_bl
  · cases e
theorem od_notN : OpD X A (compareOp .IsNot) gNotN := by
  refine ⟨_, op_notN, fun B Hb H σ c da db x y k d Q s hx hy e q => ?_⟩
  unfold gNotN at e
  split at e
  · rename_i hb
    cases e
    have : db = .non := by cases db <;> first | rfl | cases hb
    subst this
    refine ⟨hy.non, ?_⟩
    rw [hx.isNon]
    exact q _ Hb H s .refl rk_bl
  · cases e
end
end DL
namespace DL
open PySem PySem.Spec PyProof.Rows L2

/-! ### arguments that are kept for good -/
inductive AR where
  | ok (ds : List D) (c : Cfg) | exc (x : XD) (c : Cfg) | bad
abbrev AF := Cfg → AR
def APost (A : Am) (B : Bs) (E : XS) (Hb H : Hp) (σ : L2.St) (Q : List V → Hp → Prop) : AR → Prop
  | .ok ds c' => ∀ (vs : List V) (Hb' H' : Hp), Sr A B Hb' H' σ c' → Stp A Hb H Hb' H' → RepL A Hb' ds vs → Q vs H'
  | .exc x c' => ExcE A B (E σ) Hb H σ x c'
  | .bad => False
def rdA (A : Am) (B : Bs) (E : XS) (f : AF) : TA := fun σ H Q => ∃ (Hb : Hp) (c : Cfg), Sr A B Hb H σ c ∧ APost A B E Hb H σ Q (f c)
def DA (X : Cx) (A : Am) (B : Bs) (E : XS) (es : List Expr) (f : AF) : Prop := PA X es (rdA A B E f)
def DK (X : Cx) (A : Am) (B : Bs) (E : XS) (ks : List Keyword) (f : AF) : Prop := PK X ks (rdA A B E f)
def AR.bind (r : AR) (f : List D → Cfg → ER) : ER := match r with
  | .ok ds c => f ds c
  | .exc x W => .exc x W
  | .bad => .bad
@[simp] theorem abind_ok {d c} {f : List D → Cfg → ER} : (AR.ok d c).bind f = f d c := rfl
@[simp] theorem abind_exc {x W} {f : List D → Cfg → ER} : (AR.exc x W).bind f = .exc x W := rfl
@[simp] theorem abind_bad {f : List D → Cfg → ER} : AR.bad.bind f = .bad := rfl
def AR.cons (d : D) : AR → AR
  | .ok ds c => .ok (d :: ds) c
  | .exc x W => .exc x W
  | .bad => .bad
@[simp] theorem acons_ok {d ds c} : (AR.ok ds c).cons d = .ok (d :: ds) c := rfl
@[simp] theorem acons_exc {d x W} : (AR.exc x W).cons d = .exc x W := rfl
@[simp] theorem acons_bad {d} : AR.bad.cons d = .bad := rfl
def evNil : AF := fun c => .ok [] c
def evCons (f : EF) (g : AF) : AF := fun c => match f c with
  | .ok .bo _ _ => .bad
  | .ok _ d c1 => (g c1).cons d
  | .exc x W => .exc x W
  | .bad => .bad
section
variable {X : Cx} {A : Am} {B : Bs} {E : XS} {Hb H Hb1 H1 : Hp} {σ : List (Option V)} {c c1 : Cfg} {Q : VK} {fa fb fc : EF} {ga : AF}
theorem APost.mono {QA : List V → Hp → Prop} {r : AR} (s : Stp A Hb H Hb1 H1) (h : APost A B E Hb H σ QA r) : APost A B E Hb1 H1 σ QA r := by
  cases r with
  | ok ds c' => exact fun v Hb' H' s1 t k => h v Hb' H' s1 (s.trans t) k
  | exc x c' => exact ExcE.mono s h
  | bad => exact h
theorem APost.cons {QA : List V → Hp → Prop} {r : AR} {d : D} {v : V} (h : APost A B E Hb H σ QA (r.cons d)) (hv : Rep A Hb d v) : APost A B E Hb H σ (fun vs H' => QA (v :: vs) H') r := by
  cases r with
  | ok ds c' => exact fun vs Hb' H' s1 t k => h (v :: vs) Hb' H' s1 t (RepL.cons (Rep.mono t.b _ _ hv) k)
  | exc x W => exact h
  | bad => exact h
theorem rdA_cons {QA : List V → Hp → Prop} (h : rdA A B E (evCons fa ga) σ H QA) : tCons (rdE A B E fa) (rdA A B E ga) σ H QA := by
  obtain ⟨Hb, c, s, q⟩ := h
  refine ⟨Hb, c, s, ?_⟩
  unfold evCons at q
  cases e : fa c with
  | ok k d c1 =>
    rw [e] at q
    have key : k ≠ .bo → APost A B E Hb H σ QA ((ga c1).cons d) → EPost A B E Hb H σ (fun x H1 => rdA A B E ga σ H1 fun xs H2 => QA (x :: xs) H2) (.ok k d c1) := fun hk q v Hb1 H1 s1 t1 k1 => by
      obtain ⟨Hb2, s2, e2, r2⟩ := k1.keep s1 hk
      exact ⟨Hb2, c1, s2, APost.cons (q.mono (t1.trans ⟨e2, .refl _⟩)) r2⟩
    cases k with
    | st => exact key (by intro z; cases z) q
    | fr => exact key (by intro z; cases z) q
    | bo => exact False.elim q
  | exc x W =>
    rw [e] at q
    exact q
  | bad =>
    rw [e] at q
    exact q
theorem da_nil : DA X A B E [] evNil := PA.imp pa_nil fun σ H Q ⟨Hb, c, s, q⟩ => q [] Hb H s .refl RepL.nil
theorem da_cons {e : Expr} {es : List Expr} (he : DE X A B E e fa) (hs : DA X A B E es ga) (hst : starEach (e :: es) X.env = (false, eval e X.env) :: starEach es X.env := by rfl) : DA X A B E (e :: es) (evCons fa ga) :=
  PA.imp (pa_cons he hs hst) fun _ _ _ h => rdA_cons h
theorem PK.imp {ks : List Keyword} {t t' : TA} (h : PK X ks t) (i : ∀ σ H Q, t' σ H Q → t σ H Q) : PK X ks t' := ⟨fun p pins s σ H Q I q => h.run p pins s σ H Q I (i σ H Q q)⟩
theorem dk_nil : DK X A B E [] evNil := PK.imp pk_nil fun σ H Q ⟨Hb, c, s, q⟩ => q [] Hb H s .refl RepL.nil
theorem dk_cons {e : Expr} {ks : List Keyword} {nm : Option Str} {kpos : Pos} (he : DE X A B E e fa) (hs : DK X A B E ks ga) : DK X A B E (⟨nm, e, kpos⟩ :: ks) (evCons fa ga) :=
  PK.imp (pk_cons he hs) fun _ _ _ h => rdA_cons h
/-- first the arguments -/
theorem ra_then {K : List D → Cfg → ER} {Q' : List V → Hp → Prop} (s : Sr A B Hb H σ c) (h : EPost A B E Hb H σ Q ((ga c).bind K))
    (n : ∀ ds c1 vs Hb1 H1, ga c = .ok ds c1 → Sr A B Hb1 H1 σ c1 → Stp A Hb H Hb1 H1 → RepL A Hb1 ds vs → EPost A B E Hb1 H1 σ Q (K ds c1) → Q' vs H1) : rdA A B E ga σ H Q' := by
  refine ⟨Hb, c, s, ?_⟩
  cases e : ga c with
  | ok ds c1 =>
    rw [e] at h
    exact fun vs Hb1 H1 s1 t k1 => n ds c1 vs Hb1 H1 e s1 t k1 (h.mono t)
  | exc x W =>
    rw [e] at h
    exact h
  | bad =>
    rw [e] at h
    exact h
/-! ### displays -/
def evTup (g : AF) : EF := fun c => (g c).bind fun ds c1 => if ds.length ≤ big then .ok .st (.tup ds) c1 else .bad
def evLst (g : AF) : EF := fun c => (g c).bind fun ds c1 => if ds.length ≤ big then .ok .fr (.lst ds) c1 else .bad
theorem de_tup {es : List Expr} {k pos} (h : DA X A B E es ga) : DE X A B E (.Tuple es k pos) (evTup ga) := PE.imp (pe_tup h) fun σ H Q ⟨Hb, c, s, q⟩ => by
  refine ra_then s q fun ds c1 vs Hb1 H1 _ s1 t1 k1 q1 => ?_
  split at q1
  · rename_i hl
    refine ⟨big_le (by rw [← k1.len]; exact hl), fun p hp => ?_⟩
    obtain ⟨s2, t2, r2⟩ := s1.newTup hp k1
    exact q1 _ _ _ s2 t2 r2
  · exact False.elim q1
theorem de_lst {es : List Expr} {pos} (h : DA X A B E es ga) : DE X A B E (.List es pos) (evLst ga) := PE.imp (pe_lst h) fun σ H Q ⟨Hb, c, s, q⟩ => by
  refine ra_then s q fun ds c1 vs Hb1 H1 _ s1 t1 k1 q1 => ?_
  split at q1
  · rename_i hl
    refine ⟨big_le (by rw [← k1.len]; exact hl), fun p hp => ?_⟩
    obtain ⟨s2, t2, r2⟩ := s1.newLst hp k1
    exact q1 _ _ _ s2 t2 r2
  · exact False.elim q1
/-! ### tests -/
def onB (d : D) (f : Bool → ER) : ER := match d with
  | .bl b => f b
  | _ => .bad
@[simp] theorem onB_bl {b f} : onB (.bl b) f = f b := rfl
def evIf (ft fa fb : EF) : EF := fun c => (ft c).bind fun _ d c1 => match d with | .bl b => (if b then fa c1 else fb c1) | _ => .bad
def evAnd (fa fb : EF) : EF := fun c => (fa c).bind fun _ d c1 => match d with | .bl b => (if b then fb c1 else .ok .st (.bl false) c1) | _ => .bad
def evOr (fa fb : EF) : EF := fun c => (fa c).bind fun _ d c1 => match d with | .bl b => (if b then .ok .st (.bl true) c1 else fb c1) | _ => .bad
def evNot (fa : EF) : EF := fun c => (fa c).bind fun _ d c1 => match d with | .bl b => .ok .st (.bl (!b)) c1 | _ => .bad
/-- a value by its truth -/
def truD : D → Option Bool
  | .non => some false
  | .bl b => some b
  | .int i => some (i != 0)
  | .tup ds => some (!ds.isEmpty)
  | .lst ds => some (!ds.isEmpty)
  | _ => none
def evTru (fa : EF) : EF := fun c => (fa c).bind fun _ d c1 => match truD d with | some b => .ok .st (.bl b) c1 | none => .bad
theorem de_if {t a b : Expr} {pos} (ht : DT X A B E t fa) (h1 : DE X A B E a fb) (h2 : DE X A B E b fc) : DE X A B E (.IfExp t a b pos) (evIf fa fb fc) := PE.imp (pe_ifExp ht h1 h2) fun σ H Q ⟨Hb, c, s, q⟩ => by
  refine rt_then (K := fun b c1 => if b then fb c1 else fc c1) s q fun b c1 Hb1 H1 s1 t1 q1 => ?_
  cases b with
  | true => exact ⟨Hb1, c1, s1, q1⟩
  | false => exact ⟨Hb1, c1, s1, q1⟩
theorem EPost.bl {r : ER} (h : EPost A B E Hb H σ Q r) : EPost A B E Hb H σ Q r := h
/-- a bool comes out of a test's value -/
theorem rd_thenB {K : Bool → Cfg → ER} {Q' : VK} (s : Sr A B Hb H σ c) (h : EPost A B E Hb H σ Q ((fa c).bind fun _ d c1 => match d with | .bl b => K b c1 | _ => .bad))
    (n : ∀ b c1 Hb1 H1, Sr A B Hb1 H1 σ c1 → Stp A Hb H Hb1 H1 → EPost A B E Hb1 H1 σ Q (K b c1) → Q' (.bl b) H1) : rdE A B E fa σ H Q' := by
  refine rd_then s h fun k d c1 v Hb1 H1 _ s1 t1 k1 q1 => ?_
  cases d with
  | bl b =>
    rw [k1.o.bl]
    exact n b c1 Hb1 H1 s1 t1 q1
  | _ => exact False.elim q1
theorem de_and {a b : Expr} {rest : List Expr} {pos} (ha : DE X A B E a fa) (hb : DE X A B E (.BoolOp .And (b :: rest) pos) fb) : DE X A B E (.BoolOp .And (a :: b :: rest) pos) (evAnd fa fb) := PE.imp (pe_and ha hb) fun σ H Q ⟨Hb, c, s, q⟩ => by
  refine rd_thenB (K := fun b c1 => if b then fb c1 else .ok .st (.bl false) c1) s q fun b c1 Hb1 H1 s1 t1 q1 => ⟨b, rfl, ?_⟩
  cases b with
  | true => exact ⟨Hb1, c1, s1, q1⟩
  | false => exact q1 _ Hb1 H1 s1 .refl rk_bl
theorem de_or {a b : Expr} {rest : List Expr} {pos} (ha : DE X A B E a fa) (hb : DE X A B E (.BoolOp .Or (b :: rest) pos) fb) : DE X A B E (.BoolOp .Or (a :: b :: rest) pos) (evOr fa fb) := PE.imp (pe_or ha hb) fun σ H Q ⟨Hb, c, s, q⟩ => by
  refine rd_thenB (K := fun b c1 => if b then .ok .st (.bl true) c1 else fb c1) s q fun b c1 Hb1 H1 s1 t1 q1 => ⟨b, rfl, ?_⟩
  cases b with
  | false => exact ⟨Hb1, c1, s1, q1⟩
  | true => exact q1 _ Hb1 H1 s1 .refl rk_bl
theorem de_one {op} {a : Expr} {pos} (ha : DE X A B E a fa) : DE X A B E (.BoolOp op [a] pos) fa := pe_one ha
theorem de_not {a : Expr} {pos} (ha : DE X A B E a fa) : DE X A B E (.UnaryOp .Not a pos) (evNot fa) := PE.imp (pe_not ha) fun σ H Q ⟨Hb, c, s, q⟩ => by
  refine rd_thenB (K := fun b c1 => .ok .st (.bl (!b)) c1) s q fun b c1 Hb1 H1 s1 t1 q1 => ⟨b, rfl, q1 _ Hb1 H1 s1 .refl rk_bl⟩
def DW (X : Cx) (A : Am) (B : Bs) (E : XS) (e : Expr) (f : EF) : Prop := PW X e (rdT A B E f)
theorem PW.imp {e : Expr} {t t' : TT} (h : PW X e t) (i : ∀ σ H Q, t' σ H Q → t σ H Q) : PW X e t' := ⟨fun w pins s σ H Q I q => h.run w pins s σ H Q I (i σ H Q q)⟩
theorem dt_w {e : Expr} (h : DW X A B E e fa) : DT X A B E e fa := PW.pt h
theorem dw_and {a b : Expr} {rest : List Expr} {pos} (ha : DT X A B E a fa) (hb : DW X A B E (.BoolOp .And (b :: rest) pos) fb) : DW X A B E (.BoolOp .And (a :: b :: rest) pos) (evAnd fa fb) := PW.imp (pw_and ha hb) fun σ H Q ⟨Hb, c, s, q⟩ => by
  refine rt_thenT (K := fun b c1 => if b then fb c1 else .ok .st (.bl false) c1) s q fun b c1 Hb1 H1 s1 t1 q1 => ?_
  cases b with
  | true => exact ⟨Hb1, c1, s1, q1⟩
  | false =>
    obtain ⟨b, e, g⟩ := q1
    cases e
    exact g Hb1 H1 s1 .refl
theorem dw_or {a b : Expr} {rest : List Expr} {pos} (ha : DT X A B E a fa) (hb : DW X A B E (.BoolOp .Or (b :: rest) pos) fb) : DW X A B E (.BoolOp .Or (a :: b :: rest) pos) (evOr fa fb) := PW.imp (pw_or ha hb) fun σ H Q ⟨Hb, c, s, q⟩ => by
  refine rt_thenT (K := fun b c1 => if b then .ok .st (.bl true) c1 else fb c1) s q fun b c1 Hb1 H1 s1 t1 q1 => ?_
  cases b with
  | false => exact ⟨Hb1, c1, s1, q1⟩
  | true =>
    obtain ⟨b, e, g⟩ := q1
    cases e
    exact g Hb1 H1 s1 .refl
theorem dw_and1 {a : Expr} {pos} (ha : DT X A B E a fa) : DW X A B E (.BoolOp .And [a] pos) fa := pw_and1 ha
theorem dw_or1 {a : Expr} {pos} (ha : DT X A B E a fa) : DW X A B E (.BoolOp .Or [a] pos) fa := pw_or1 ha
theorem dt_not {a : Expr} {pos} (ha : DT X A B E a fa) : DT X A B E (.UnaryOp .Not a pos) (evNot fa) := PT.imp (pt_not ha) fun σ H Q ⟨Hb, c, s, q⟩ => by
  refine rt_thenT (K := fun b c1 => .ok .st (.bl (!b)) c1) s q fun b c1 Hb1 H1 s1 t1 q1 => ?_
  obtain ⟨b', e, g⟩ := q1
  cases e
  exact g Hb1 H1 s1 .refl
theorem tru_of {d : D} {v : V} {b : Bool} (f : Same Hb H) (h : RepO A Hb H d v) (e : truD d = some b) : TruV A.K v H b := by
  cases d with
  | non => cases e; rw [h.non]; rfl
  | bl b => cases e; rw [h.bl]; rfl
  | int i => cases e; rw [h.int]; rfl
  | str i => cases e
  | tup ds =>
    cases e
    obtain ⟨a, xs, rfl, h1, h2⟩ := h.tup
    have hl := h2.len
    refine .inr (.inl ⟨xs, SqT.of (f _ _ h1), ?_⟩)
    cases ds <;> cases xs <;> simp_all
  | lst ds =>
    cases e
    obtain ⟨a, xs, rfl, h1, h2⟩ := h.lst f
    have hl := h2.len
    refine .inl ⟨xs, SqL.of h1, ?_⟩
    cases ds <;> cases xs <;> simp_all
  | obj C ns ds => cases e
  | deal => cases e
  | err cn es => cases e
  | dK cn es => cases e
  | dT cn es => cases e
theorem dt_tru {a : Expr} (hK : X.K = A.K) (ha : DE X A B E a fa) (he : ∀ whole, isTrue a X.env whole = (do let v ← whole; standAt a.pos; holding [v] (truthy v))) : DT X A B E a (evTru fa) := PT.imp (pt_truth ha he) fun σ H Q ⟨Hb, c, s, q⟩ => by
  refine rd_thenT (K := fun _ d c1 => match truD d with | some b => .ok .st (.bl b) c1 | none => .bad) s q fun k d c1 v Hb1 H1 _ s1 t1 k1 q1 => ?_
  cases e : truD d with
  | none =>
    rw [e] at q1
    exact False.elim q1
  | some b =>
    rw [e] at q1
    obtain ⟨b', e', g⟩ := q1
    cases e'
    exact ⟨b, by rw [hK]; exact tru_of s1.same k1.o e, g Hb1 H1 s1 .refl⟩
/-! ### a chain of two comparisons -/
def ev3 (g g' : D → D → Option (Kd × D)) (fa fb fc : EF) : EF := fun c => (fa c).bind fun _ da c1 => (fb c1).bind fun _ db c2 => match g da db with
  | some (_, .bl true) => (fc c2).bind fun _ dc c3 => ofO c3 (g' db dc)
  | some (_, .bl false) => .ok .st (.bl false) c2
  | _ => .bad
theorem rd_chain {r r' : R2} {g g' : D → D → Option (Kd × D)} (h1 : OpS A r g) (h2 : OpS A r' g') (s : Sr A B Hb H σ c) (q : EPost A B E Hb H σ Q (ev3 g g' fa fb fc c)) : tChain r r' (rdE A B E fa) (rdE A B E fb) (rdE A B E fc) σ H Q := by
  refine rd_then s q fun k d c1 v Hb1 H1 _ s1 t1 k1 q1 => ?_
  refine rd_then s1 q1 fun k' d' c2 v' Hb2 H2 _ s2 t2 k2 q2 => ?_
  have sc : ∀ {k : Kd} {t : Bool} {v : V} {Hb' H' : Hp}, RepK A B Hb' H' σ c2 k (.bl t) v → v = .bl t := fun h => h.o.bl
  split at q2
  · rename_i kk eg
    refine h1 B Hb2 H2 σ c2 d d' v v' kk (.bl true) _ s2 ((k1.o).mono t2) k2.o eg fun z Hb3 H3 s3 t3 k3 => ⟨true, sc k3, ?_⟩
    rw [if_pos rfl]
    refine rd_then s3 (q2.mono t3) fun k' dc c4 w' Hb4 H4 _ s4 t4 k4 q4 => ?_
    cases eg2 : g' d' dc with
    | none =>
      rw [eg2] at q4
      exact False.elim q4
    | some p =>
      obtain ⟨kk2, dd⟩ := p
      rw [eg2] at q4
      exact h2 B Hb4 H4 σ c4 d' dc v' w' kk2 dd Q s4 ((k2.o).mono (t3.trans t4)) k4.o eg2 q4
  · rename_i kk eg
    refine h1 B Hb2 H2 σ c2 d d' v v' kk (.bl false) _ s2 ((k1.o).mono t2) k2.o eg fun z Hb3 H3 s3 t3 k3 => ⟨false, sc k3, ?_⟩
    rw [if_neg Bool.false_ne_true]
    exact q2 _ Hb3 H3 s3 t3 rk_bl
  · exact False.elim q2
theorem de_chain {op op' : CmpOp} {g g' : D → D → Option (Kd × D)} {a b d : Expr} {pos} (ho : OpD X A (compareOp op) g) (ho' : OpD X A (compareOp op') g') (ha : DE X A B E a fa) (hb : DE X A B E b fb) (hc : DE X A B E d fc)
    (hm : lastMarks [op, op'] [b, d] = false := by with_unfolding_all rfl) : DE X A B E (.Compare a [op, op'] [b, d] pos) (ev3 g g' fa fb fc) := by
  obtain ⟨r, h1, h2⟩ := ho
  obtain ⟨r', h1', h2'⟩ := ho'
  exact PE.imp (pe_chain h1 h1' ha hb hc hm) fun σ H Q ⟨Hb, c, s, q⟩ => rd_chain h2 h2' s q
theorem dt_chain {op op' : CmpOp} {g g' : D → D → Option (Kd × D)} {a b d : Expr} {pos} (ho : OpD X A (compareOp op) g) (ho' : OpD X A (compareOp op') g') (ha : DE X A B E a fa) (hb : DE X A B E b fb) (hc : DE X A B E d fc)
    (hm : lastMarks [op, op'] [b, d] = false := by with_unfolding_all rfl) : DT X A B E (.Compare a [op, op'] [b, d] pos) (ev3 g g' fa fb fc) := by
  obtain ⟨r, h1, h2⟩ := ho
  obtain ⟨r', h1', h2'⟩ := ho'
  exact dt_of (PT.imp (pt_chain h1 h1' ha hb hc hm) fun σ H Q ⟨Hb, c, s, q⟩ => rd_chain h2 h2' s q)
/-! ### unary minus -/
def evNeg (fa : EF) : EF := fun c => (fa c).bind fun _ d c1 => match d with | .int i => .ok .st (.int (-i)) c1 | _ => .bad
theorem de_neg {a : Expr} {pos} (ha : DE X A B E a fa) : DE X A B E (.UnaryOp .USub a pos) (evNeg fa) := PE.imp (pe_un un_neg ha) fun σ H Q ⟨Hb, c, s, q⟩ => by
  refine rd_then s q fun k d c1 v Hb1 H1 _ s1 t1 k1 q1 => ?_
  cases d with
  | int i => exact ⟨i, k1.o.int, q1 _ Hb1 H1 s1 .refl rk_int⟩
  | _ => exact False.elim q1
/-! ### items, slices -/
def gIxL : D → D → Option (Kd × D)
  | .lst a, .int i => (atI a i).map fun d => (.st, d)
  | _, _ => none
def gIxT : D → D → Option (Kd × D)
  | .tup a, .int i => (atI a i).map fun d => (.st, d)
  | _, _ => none
def IxD (X : Cx) (A : Am) (g : D → D → Option (Kd × D)) : Prop := ∃ r, IxR X r ∧ OpS A r g
theorem RepL.atI {ds : List D} {xs : List V} {i : Int} {d : D} (h : RepL A Hb ds xs) (e : atI ds i = some d) : ∃ x, L2.atI xs i = some x ∧ Rep A Hb d x := by
  unfold L2.atI at e ⊢
  rw [← h.len]
  cases q : ixN ds.length i with
  | none => rw [q] at e; cases e
  | some j =>
    rw [q] at e
    exact h.get e
theorem id_list (hK : X.K = A.K) : IxD X A gIxL := by
  refine ⟨_, ix_list, fun B Hb H σ c da db x y k d Q s hx hy e q => ?_⟩
  unfold gIxL at e
  split at e
  · rename_i a i
    cases ea : atI a i with
    | none => rw [ea] at e; cases e
    | some d' =>
      rw [ea] at e
      cases e
      obtain ⟨p, xs, rfl, h1, h2⟩ := hx.lst s.same
      obtain ⟨z, h3, h4⟩ := h2.atI ea
      exact ⟨p, xs, i, z, rfl, hy.int, SqL.of h1, h3, q z Hb H s .refl h4⟩
  · cases e
theorem id_tup (hK : X.K = A.K) : IxD X A gIxT := by
  refine ⟨_, ix_tup, fun B Hb H σ c da db x y k d Q s hx hy e q => ?_⟩
  unfold gIxT at e
  split at e
  · rename_i a i
    cases ea : atI a i with
    | none => rw [ea] at e; cases e
    | some d' =>
      rw [ea] at e
      cases e
      obtain ⟨p, xs, rfl, h1, h2⟩ := hx.tup
      obtain ⟨z, h3, h4⟩ := h2.atI ea
      exact ⟨p, xs, i, z, rfl, hy.int, SqT.of (s.same _ _ h1), h3, q z Hb H s .refl h4⟩
  · cases e
def gIx : D → D → Option (Kd × D)
  | .lst a, .int i => (atI a i).map fun d => (.st, d)
  | .tup a, .int i => (atI a i).map fun d => (.st, d)
  | _, _ => none
theorem id_ix (hK : X.K = A.K) : IxD X A gIx := by
  obtain ⟨r, h1, h2⟩ := id_list (X := X) hK
  obtain ⟨r', h1', h2'⟩ := id_tup (X := X) hK
  refine ⟨_, L2.IxR.or h1 h1', fun B Hb H σ c da db x y k d Q s hx hy e q => ?_⟩
  unfold gIx at e
  split at e
  · exact .inl (h2 B Hb H σ c _ _ x y k d Q s hx hy e q)
  · exact .inr (h2' B Hb H σ c _ _ x y k d Q s hx hy e q)
  · cases e
theorem de_ix {a b : Expr} {pos} (hK : X.K = A.K) (ha : DE X A B E a fa) (hb : DE X A B E b fb) (hp : PlainIx b := by intro _ _; rfl) : DE X A B E (.Subscript a b pos) (ev2 gIx fa fb) := by
  obtain ⟨r, h1, h2⟩ := id_ix (X := X) hK
  exact de_tOp (ta := rdE A B E fa) (tb := rdE A B E fb) h2 (pe_ix h1 ha hb hp)
end
end DL
namespace DL
open PySem PySem.Spec PyProof.Rows L2

/-! ### slices -/
inductive OR where
  | ok (o : Option Int) (c : Cfg) | exc (x : XD) (c : Cfg) | bad
abbrev OF := Cfg → OR
def OR.bind (r : OR) (f : Option Int → Cfg → ER) : ER := match r with
  | .ok o c => f o c
  | .exc x W => .exc x W
  | .bad => .bad
@[simp] theorem obind_ok {d c} {f : Option Int → Cfg → ER} : (OR.ok d c).bind f = f d c := rfl
@[simp] theorem obind_exc {x W} {f : Option Int → Cfg → ER} : (OR.exc x W).bind f = .exc x W := rfl
@[simp] theorem obind_bad {f : Option Int → Cfg → ER} : OR.bad.bind f = .bad := rfl
def OPost (A : Am) (B : Bs) (E : XS) (Hb H : Hp) (σ : L2.St) (Q : Option Int → Hp → Prop) : OR → Prop
  | .ok o c' => ∀ (Hb' H' : Hp), Sr A B Hb' H' σ c' → Stp A Hb H Hb' H' → Q o H'
  | .exc x c' => ExcE A B (E σ) Hb H σ x c'
  | .bad => False
def rdO (A : Am) (B : Bs) (E : XS) (f : OF) : TO := fun σ H Q => ∃ (Hb : Hp) (c : Cfg), Sr A B Hb H σ c ∧ OPost A B E Hb H σ Q (f c)
def DO (X : Cx) (A : Am) (B : Bs) (E : XS) (e : Option Expr) (f : OF) : Prop := PO X e (rdO A B E f)
def evON : OF := fun c => .ok none c
def evOS (fa : EF) : OF := fun c => match fa c with
  | .ok _ (.int i) c1 => .ok (some i) c1
  | .ok _ _ _ => .bad
  | .exc x W => .exc x W
  | .bad => .bad
def cutD (ds : List D) (lo hi : Option Int) : List D := (ds.drop (HT.sIx ds.length 0 lo)).take (HT.sIx ds.length ds.length hi - HT.sIx ds.length 0 lo)
def gSl (d : D) (lo hi : Option Int) : Option (Kd × D) := match d with
  | .lst ds => some (.fr, .lst (cutD ds lo hi))
  | .tup ds => some (.st, .tup (cutD ds lo hi))
  | _ => none
def evSl (fa : EF) (fl fh : OF) : EF := fun c => (fa c).bind fun _ d c1 => (fl c1).bind fun l c2 => (fh c2).bind fun h c3 => ofO c3 (gSl d l h)
section
variable {X : Cx} {A : Am} {B : Bs} {E : XS} {Hb H Hb1 H1 : Hp} {σ : List (Option V)} {c c1 : Cfg} {Q : VK} {fa fb fc : EF} {ga gb : AF} {fl fh : OF}
theorem PO.imp {e : Option Expr} {t t' : TO} (h : PO X e t) (i : ∀ σ H Q, t' σ H Q → t σ H Q) : PO X e t' := ⟨fun pins s σ H Q I q => h.run pins s σ H Q I (i σ H Q q)⟩
theorem do_none : DO X A B E none evON := PO.imp po_none fun σ H Q ⟨Hb, c, s, q⟩ => q Hb H s .refl
theorem do_some {e : Expr} (h : DE X A B E e fa) : DO X A B E (some e) (evOS fa) := PO.imp (po_some h) fun σ H Q ⟨Hb, c, s, q⟩ => by
  refine ⟨Hb, c, s, ?_⟩
  unfold evOS at q
  cases ef : fa c with
  | ok k d c1 =>
    rw [ef] at q
    cases d with
    | int i => exact fun v Hb' H' s1 t1 k1 => ⟨i, k1.o.int, q Hb' H' s1 t1⟩
    | _ => exact False.elim q
  | exc x W => rw [ef] at q; exact q
  | bad => rw [ef] at q; exact q
theorem ro_then {K : Option Int → Cfg → ER} {Q' : Option Int → Hp → Prop} (s : Sr A B Hb H σ c) (h : EPost A B E Hb H σ Q ((fl c).bind K))
    (n : ∀ o c1 Hb1 H1, Sr A B Hb1 H1 σ c1 → Stp A Hb H Hb1 H1 → EPost A B E Hb1 H1 σ Q (K o c1) → Q' o H1) : rdO A B E fl σ H Q' := by
  refine ⟨Hb, c, s, ?_⟩
  cases e : fl c with
  | ok o c1 =>
    rw [e] at h
    exact fun Hb1 H1 s1 t => n o c1 Hb1 H1 s1 t (h.mono t)
  | exc x W => rw [e] at h; exact h
  | bad => rw [e] at h; exact h
theorem RepL.cut {ds : List D} {xs : List V} (h : RepL A Hb ds xs) (lo hi : Option Int) : RepL A Hb (cutD ds lo hi) (cutV xs lo hi) := by
  unfold cutD cutV
  rw [h.len]
  exact RepL.take _ (RepL.drop _ h)
theorem cut_all {xs : List V} {lo hi : Option Int} (h : HT.sIx xs.length 0 lo = 0 ∧ HT.sIx xs.length xs.length hi = xs.length) : cutV xs lo hi = xs := by
  unfold cutV
  rw [h.1, h.2, List.drop_zero, Nat.sub_zero, List.take_length]
theorem de_sl {e : Expr} {lo hi : Option Expr} {p2 pos} (hK : X.K = A.K) (he : DE X A B E e fa) (hl : DO X A B E lo fl) (hh : DO X A B E hi fh) : DE X A B E (.Subscript e (.Slice lo hi none p2) pos) (evSl fa fl fh) :=
  PE.imp (pe_slice (L2.SlR.or sl_list sl_tupA) he hl hh) fun σ H Q ⟨Hb, c, s, q⟩ => by
    refine rd_then s q fun k d c1 v Hb1 H1 _ s1 t1 k1 q1 => ?_
    refine ro_then s1 q1 fun l c2 Hb2 H2 s2 t2 q2 => ?_
    refine ro_then s2 q2 fun u c3 Hb3 H3 s3 t3 q3 => ?_
    have ko := k1.o.mono (t2.trans t3)
    cases d with
    | lst ds =>
      obtain ⟨a, xs, rfl, h1, h2⟩ := ko.lst s3.same
      refine .inl ⟨a, xs, rfl, SqL.of h1, fun p hp => ?_⟩
      obtain ⟨s4, t4, r4⟩ := s3.newLst hp (h2.cut l u)
      exact q3 _ _ _ s4 t4 r4
    | tup ds =>
      obtain ⟨a, xs, rfl, h1, h2⟩ := ko.tup
      refine .inr ⟨a, xs, rfl, SqT.of (s3.same _ _ h1), fun hz => ?_, fun hz p hp => ?_⟩
      · have e1 := cut_all hz
        have r := h2.cut l u
        rw [e1] at r
        exact q3 _ Hb3 H3 s3 .refl (rep_tup.mpr ⟨a, xs, rfl, h1, r⟩)
      · obtain ⟨s4, t4, r4⟩ := s3.newTup hp (h2.cut l u)
        exact q3 _ _ _ s4 t4 r4
    | _ => exact False.elim q3
/-! ### fields of an object -/
/-- what the classes of the text must have for their fields to be read -/
structure FldOk (K : PySem.W.Frag) (C : Addr) (f : Str) : Prop where
  cl : Cls K C
  na : NoAttr K C f
def gFld (T : Nat → Str → Bool) (f : Str) : D → Option D
  | .obj C ns ds => if T C f then (ns.zip ds).lookup f else none
  | _ => none
def evFld (T : Nat → Str → Bool) (f : Str) (fa : EF) : EF := fun c => (fa c).bind fun _ d c1 => ofO c1 ((gFld T f d).map fun d => (.st, d))
theorem lookup_rep {f : Str} {d : D} : ∀ {ds : List D} {fs : List (Str × V)}, RepL A Hb ds (fs.map (·.2)) → ((fs.map (·.1)).zip ds).lookup f = some d → ∃ v, fs.lookup f = some v ∧ Rep A Hb d v
  | ds, [], h, e => by simp at e
  | [], (g, x) :: fs, h, e => by simp at e
  | d0 :: ds, (g, x) :: fs, h, e => by
    obtain ⟨y, r, h1, h2, h3⟩ := repL_cons.mp h
    rw [List.map_cons] at h1
    cases h1
    rw [List.map_cons, List.zip_cons_cons, List.lookup_cons] at e
    rw [List.lookup_cons]
    cases hg : f == g with
    | true =>
      rw [hg] at e
      cases e
      exact ⟨_, rfl, h2⟩
    | false =>
      rw [hg] at e
      exact lookup_rep h3 e
theorem de_fld {T : Nat → Str → Bool} {f : Str} {e : Expr} {pos} (hK : X.K = A.K) (hT : ∀ C, T C f = true → FldOk A.K (A.cl C) f) (he : DE X A B E e fa) (hb : attributeBase e f X.env (eval e X.env) = eval e X.env := by rfl) : DE X A B E (.Attribute e f pos) (evFld T f fa) :=
  PE.imp (pe_fld he hb) fun σ H Q ⟨Hb, c, s, q⟩ => by
    refine rd_then s q fun k d c1 v Hb1 H1 _ s1 t1 k1 q1 => ?_
    cases eg : gFld T f d with
    | none => rw [eg] at q1; exact False.elim q1
    | some d' =>
      rw [eg] at q1
      cases d with
      | obj C ns ds =>
        replace eg : (if T C f = true then (ns.zip ds).lookup f else none) = some d' := eg
        by_cases hc : T C f = true
        · rw [if_pos hc] at eg
          rcases k1.o with h | ⟨a, o, hv, ho, z, _⟩
          · unfold Rep at h
            obtain ⟨a, dx, fs, rfl, h2, h3, h4⟩ := h
            subst h3
            obtain ⟨w, h5, h6⟩ := lookup_rep h4 eg
            have ok := hT C hc
            rw [hK]
            exact ⟨a, A.cl C, dx, fs, w, rfl, s1.same _ _ h2, ok.cl, ok.na, h5, q1 _ Hb1 H1 s1 .refl h6⟩
          · obtain ⟨dx, fs, h2, h3, h4⟩ := z
            subst h2 h3
            obtain ⟨w, h5, h6⟩ := lookup_rep h4 eg
            have ok := hT C hc
            rw [hK]
            exact ⟨a, A.cl C, dx, fs, w, hv, ho, ok.cl, ok.na, h5, q1 _ Hb1 H1 s1 .refl h6⟩
        · rw [if_neg hc] at eg; cases eg
      | _ => cases eg
/-! ### built-in functions -/
def CaS1 (A : Am) (r : List V → Hp → VK → Prop) (g : D → Option (Kd × D)) : Prop := ∀ (B : Bs) (Hb H : Hp) (σ : List (Option V)) (c : Cfg) (da : D) (x : V) (k : Kd) (d : D) (Q : VK), Sr A B Hb H σ c → RepO A Hb H da x → g da = some (k, d) →
  (∀ v Hb' H', Sr A B Hb' H' σ c → Stp A Hb H Hb' H' → RepK A B Hb' H' σ c k d v → Q v H') → r [x] H Q
def CaD1 (X : Cx) (A : Am) (f : Value) (g : D → Option (Kd × D)) : Prop := ∃ r, CallR X f r ∧ CaS1 A r g
def CaS2 (A : Am) (r : List V → Hp → VK → Prop) (g : D → D → Option (Kd × D)) : Prop := ∀ (B : Bs) (Hb H : Hp) (σ : List (Option V)) (c : Cfg) (da db : D) (x y : V) (k : Kd) (d : D) (Q : VK), Sr A B Hb H σ c → RepO A Hb H da x → RepO A Hb H db y → g da db = some (k, d) →
  (∀ v Hb' H', Sr A B Hb' H' σ c → Stp A Hb H Hb' H' → RepK A B Hb' H' σ c k d v → Q v H') → r [x, y] H Q
def CaD2 (X : Cx) (A : Am) (f : Value) (g : D → D → Option (Kd × D)) : Prop := ∃ r, CallR X f r ∧ CaS2 A r g
def ev1 (g : D → Option (Kd × D)) (fa : EF) : EF := fun c => (fa c).bind fun _ da c1 => ofO c1 (g da)
theorem CaD1.or {f : Value} {g g' : D → Option (Kd × D)} (h : CaD1 X A f g) (h' : CaD1 X A f g') : CaD1 X A f (fun a => (g a).orElse fun _ => g' a) := by
  obtain ⟨r, h1, h2⟩ := h
  obtain ⟨r', h1', h2'⟩ := h'
  refine ⟨_, L2.CallR.or h1 h1', fun B Hb H σ c da x k d Q s hx e q => ?_⟩
  dsimp only at e
  cases eg : g da with
  | some p =>
    rw [eg] at e
    cases e
    exact .inl (h2 B Hb H σ c da x k d Q s hx eg q)
  | none =>
    rw [eg] at e
    exact .inr (h2' B Hb H σ c da x k d Q s hx e q)
theorem rd_ca1 {r : List V → Hp → VK → Prop} {g : D → Option (Kd × D)} (h : CaS1 A r g) (s : Sr A B Hb H σ c) (q : EPost A B E Hb H σ Q (ev1 g fa c)) : tCB r (tCons (rdE A B E fa) tNil) σ H Q := by
  refine rd_then s q fun k d c1 v Hb1 H1 _ s1 t1 k1 q1 => ?_
  cases eg : g d with
  | none => rw [eg] at q1; exact False.elim q1
  | some p =>
    obtain ⟨kk, dd⟩ := p
    rw [eg] at q1
    exact h B Hb1 H1 σ c1 d v kk dd Q s1 k1.o eg q1
theorem rd_ca2 {r : List V → Hp → VK → Prop} {g : D → D → Option (Kd × D)} (h : CaS2 A r g) (s : Sr A B Hb H σ c) (q : EPost A B E Hb H σ Q (ev2 g fa fb c)) : tCB r (tCons (rdE A B E fa) (tCons (rdE A B E fb) tNil)) σ H Q := by
  refine rd_then s q fun k d c1 v Hb1 H1 _ s1 t1 k1 q1 => ?_
  refine rd_then s1 q1 fun k' d' c2 v' Hb2 H2 _ s2 t2 k2 q2 => ?_
  cases eg : g d d' with
  | none => rw [eg] at q2; exact False.elim q2
  | some p =>
    obtain ⟨kk, dd⟩ := p
    rw [eg] at q2
    exact h B Hb2 H2 σ c2 d d' v v' kk dd Q s2 ((k1.o).mono t2) k2.o eg q2
theorem de_b1 {x : Str} {p pos : Pos} {e : Expr} {id : String} {g : D → Option (Kd × D)} (hc : CaD1 X A (.builtin id) g) (hg : Gl X x) (hm : X.mg x = none) (hv : bootBuiltins x = some (.builtin id)) (ha : DE X A B E e fa) (hn : x ≠ "__name__" := by decide) (hdb : (x == ("__debug__" : Str)) = false := by decide)
    (he : starEach [e] X.env = (false, eval e X.env) :: starEach [] X.env := by rfl) (hpl : (backTo pos (starEach [] X.env)).any (·.1) = false := by rfl) : DE X A B E (.Call (.Name x p) [e] [] pos) (ev1 g fa) := by
  obtain ⟨r, h1, h2⟩ := hc
  exact PE.imp (pe_callB h1 hg hm hv (pa_cons ha pa_nil he) hn hdb he hpl) fun σ H Q ⟨Hb, c, s, q⟩ => rd_ca1 h2 s q
theorem de_t1 {x : Str} {p pos : Pos} {e : Expr} {T : String} {g : D → Option (Kd × D)} (hc : CaD1 X A (.type T) g) (hg : Gl X x) (hm : X.mg x = none) (hv : bootBuiltins x = some (.type T)) (ha : DE X A B E e fa) (hn : x ≠ "__name__" := by decide) (hdb : (x == ("__debug__" : Str)) = false := by decide)
    (he : starEach [e] X.env = (false, eval e X.env) :: starEach [] X.env := by rfl) (hpl : (backTo pos (starEach [] X.env)).any (·.1) = false := by rfl) : DE X A B E (.Call (.Name x p) [e] [] pos) (ev1 g fa) := by
  obtain ⟨r, h1, h2⟩ := hc
  exact PE.imp (pe_callTy h1 hg hm hv (pa_cons ha pa_nil he) hn hdb he hpl) fun σ H Q ⟨Hb, c, s, q⟩ => rd_ca1 h2 s q
theorem de_b2 {x : Str} {p pos : Pos} {e e' : Expr} {id : String} {g : D → D → Option (Kd × D)} (hc : CaD2 X A (.builtin id) g) (hg : Gl X x) (hm : X.mg x = none) (hv : bootBuiltins x = some (.builtin id)) (ha : DE X A B E e fa) (hb : DE X A B E e' fb) (hn : x ≠ "__name__" := by decide) (hdb : (x == ("__debug__" : Str)) = false := by decide)
    (he : starEach [e, e'] X.env = (false, eval e X.env) :: starEach [e'] X.env := by rfl) (he' : starEach [e'] X.env = (false, eval e' X.env) :: starEach [] X.env := by rfl) (hpl : (backTo pos (starEach [e'] X.env)).any (·.1) = false := by rfl) : DE X A B E (.Call (.Name x p) [e, e'] [] pos) (ev2 g fa fb) := by
  obtain ⟨r, h1, h2⟩ := hc
  exact PE.imp (pe_callB h1 hg hm hv (pa_cons ha (pa_cons hb pa_nil he') he) hn hdb he hpl) fun σ H Q ⟨Hb, c, s, q⟩ => rd_ca2 h2 s q
/-- len -/
def gLen : D → Option (Kd × D)
  | .lst ds => some (.st, .int ds.length)
  | .tup ds => some (.st, .int ds.length)
  | _ => none
theorem cd_len : CaD1 X A (.builtin "len") gLen := by
  refine ⟨_, call_len_seq, fun B Hb H σ c da x k d Q s hx e q => ?_⟩
  cases da with
  | lst ds =>
    cases e
    obtain ⟨a, xs, rfl, h1, h2⟩ := hx.lst s.same
    refine ⟨a, xs, rfl, .inl (SqL.of h1), ?_⟩
    rw [← h2.len]
    exact q _ Hb H s .refl rk_int
  | tup ds =>
    cases e
    obtain ⟨a, xs, rfl, h1, h2⟩ := hx.tup
    refine ⟨a, xs, rfl, .inr (SqT.of (s.same _ _ h1)), ?_⟩
    rw [← h2.len]
    exact q _ Hb H s .refl rk_int
  | _ => cases e
/-- list(x), tuple(x) of a list or a tuple -/
def gList : D → Option (Kd × D)
  | .lst ds => some (.fr, .lst ds)
  | .tup ds => some (.fr, .lst ds)
  | _ => none
def gTuple : D → Option (Kd × D)
  | .lst ds => some (.st, .tup ds)
  | .tup ds => some (.st, .tup ds)
  | _ => none
theorem cd_list : CaD1 X A (.type "list") gList := by
  refine ⟨_, call_list_of, fun B Hb H σ c da x k d Q s hx e q => ?_⟩
  cases da with
  | lst ds =>
    cases e
    obtain ⟨a, xs, rfl, h1, h2⟩ := hx.lst s.same
    refine ⟨a, xs, rfl, .inl (SqL.of h1), fun l hl => ?_⟩
    obtain ⟨s4, t4, r4⟩ := s.newLst hl h2
    exact q _ _ _ s4 t4 r4
  | tup ds =>
    cases e
    obtain ⟨a, xs, rfl, h1, h2⟩ := hx.tup
    refine ⟨a, xs, rfl, .inr (SqT.of (s.same _ _ h1)), fun l hl => ?_⟩
    obtain ⟨s4, t4, r4⟩ := s.newLst hl h2
    exact q _ _ _ s4 t4 r4
  | _ => cases e
theorem cd_tuple : CaD1 X A (.type "tuple") gTuple := by
  refine ⟨_, call_tuple_of, fun B Hb H σ c da x k d Q s hx e q => ?_⟩
  cases da with
  | lst ds =>
    cases e
    obtain ⟨a, xs, rfl, h1, h2⟩ := hx.lst s.same
    refine ⟨a, xs, rfl, .inl ⟨SqL.of h1, fun l hl => ?_⟩⟩
    obtain ⟨s4, t4, r4⟩ := s.newTup hl h2
    exact q _ _ _ s4 t4 r4
  | tup ds =>
    cases e
    obtain ⟨a, xs, rfl, h1, h2⟩ := hx.tup
    exact ⟨a, xs, rfl, .inr ⟨SqT.of (s.same _ _ h1), q _ Hb H s .refl (rep_tup.mpr ⟨a, xs, rfl, h1, h2⟩)⟩⟩
  | _ => cases e
/-- int(n), abs(n) -/
def gInt : D → Option (Kd × D)
  | .int i => some (.st, .int i)
  | .bl b => some (.st, .int (if b then 1 else 0))
  | _ => none
def gAbs : D → Option (Kd × D)
  | .int i => some (.st, .int (if i < 0 then -i else i))
  | _ => none
theorem cd_int : CaD1 X A (.type "int") gInt := by
  refine ⟨_, call_int1, fun B Hb H σ c da x k d Q s hx e q => ?_⟩
  cases da with
  | int i => cases e; exact .inl ⟨i, by rw [hx.int], q _ Hb H s .refl rk_int⟩
  | bl i => cases e; exact .inr ⟨i, by rw [hx.bl], q _ Hb H s .refl rk_int⟩
  | _ => cases e
theorem cd_abs : CaD1 X A (.builtin "abs") gAbs := by
  refine ⟨_, call_abs, fun B Hb H σ c da x k d Q s hx e q => ?_⟩
  cases da with
  | int i => cases e; exact ⟨i, by rw [hx.int], q _ Hb H s .refl rk_int⟩
  | _ => cases e
def gMax2 := gI fun i j => some (.int (if j > i then j else i))
def gMin2 := gI fun i j => some (.int (if j < i then j else i))
theorem cd_max2 (hc : X.calm = true) : CaD2 X A (.builtin "max") gMax2 := by
  refine ⟨_, call_max2 hc, fun B Hb H σ c da db x y k d Q s hx hy e q => ?_⟩
  obtain ⟨i, j, rfl, rfl, e1, rfl⟩ := gI_inv e
  cases e1
  exact ⟨i, j, by rw [hx.int, hy.int], q _ Hb H s .refl rk_int⟩
theorem cd_min2 (hc : X.calm = true) : CaD2 X A (.builtin "min") gMin2 := by
  refine ⟨_, call_min2 hc, fun B Hb H σ c da db x y k d Q s hx hy e q => ?_⟩
  obtain ⟨i, j, rfl, rfl, e1, rfl⟩ := gI_inv e
  cases e1
  exact ⟨i, j, by rw [hx.int, hy.int], q _ Hb H s .refl rk_int⟩
/-! lists of ints, of bools -/
def asI : List D → Option (List Int)
  | [] => some []
  | .int i :: ds => (asI ds).map (i :: ·)
  | _ :: _ => none
def asB : List D → Option (List Bool)
  | [] => some []
  | .bl i :: ds => (asB ds).map (i :: ·)
  | _ :: _ => none
theorem asI_eq : ∀ {ds : List D} {ns : List Int}, asI ds = some ns → ds = ns.map D.int
  | [], ns, h => by cases h; rfl
  | d :: ds, ns, h => by
    cases d with
    | int i =>
      unfold asI at h
      cases q : asI ds with
      | none => rw [q] at h; cases h
      | some ms =>
        rw [q] at h
        cases h
        rw [asI_eq q]
        rfl
    | _ => cases h
theorem asB_eq : ∀ {ds : List D} {ns : List Bool}, asB ds = some ns → ds = ns.map D.bl
  | [], ns, h => by cases h; rfl
  | d :: ds, ns, h => by
    cases d with
    | bl i =>
      unfold asB at h
      cases q : asB ds with
      | none => rw [q] at h; cases h
      | some ms =>
        rw [q] at h
        cases h
        rw [asB_eq q]
        rfl
    | _ => cases h
@[simp] theorem asI_map {ns : List Int} : asI (ns.map D.int) = some ns := by
  induction ns with
  | nil => rfl
  | cons n ns ih =>
    show (asI (ns.map D.int)).map (n :: ·) = _
    rw [ih]
    rfl
@[simp] theorem asB_map {ns : List Bool} : asB (ns.map D.bl) = some ns := by
  induction ns with
  | nil => rfl
  | cons n ns ih =>
    show (asB (ns.map D.bl)).map (n :: ·) = _
    rw [ih]
    rfl
theorem RepL.bls : ∀ {ns : List Bool} {xs : List V}, RepL A H (ns.map D.bl) xs → xs = ns.map V.bl
  | [], xs, h => repL_nil.mp h
  | n :: ns, xs, h => by
    obtain ⟨x, r, rfl, hx, t⟩ := repL_cons.mp (show RepL A H (D.bl n :: ns.map D.bl) xs from h)
    rw [rep_bl.mp hx, RepL.bls t]
    rfl
def gOnI (g : List Int → Option (Kd × D)) : D → Option (Kd × D)
  | .lst ds => (asI ds).bind g
  | _ => none
def gOnB (g : List Bool → Option (Kd × D)) : D → Option (Kd × D)
  | .lst ds => (asB ds).bind g
  | _ => none
theorem gOnI_inv {g : List Int → Option (Kd × D)} {d : D} {p : Kd × D} (h : gOnI g d = some p) : ∃ ns, d = .lst (ns.map D.int) ∧ g ns = some p := by
  cases d with
  | lst ds =>
    replace h : (asI ds).bind g = some p := h
    cases q : asI ds with
    | none => rw [q] at h; cases h
    | some ns =>
      rw [q] at h
      exact ⟨ns, by rw [asI_eq q], h⟩
  | _ => cases h
theorem gOnB_inv {g : List Bool → Option (Kd × D)} {d : D} {p : Kd × D} (h : gOnB g d = some p) : ∃ ns, d = .lst (ns.map D.bl) ∧ g ns = some p := by
  cases d with
  | lst ds =>
    replace h : (asB ds).bind g = some p := h
    cases q : asB ds with
    | none => rw [q] at h; cases h
    | some ns =>
      rw [q] at h
      exact ⟨ns, by rw [asB_eq q], h⟩
  | _ => cases h
def gSum := gOnI fun ns => some (.st, .int ns.sum)
def maxI (n : Int) (ns : List Int) : Int := ns.foldl (fun a b => if b > a then b else a) n
def minI (n : Int) (ns : List Int) : Int := ns.foldl (fun a b => if b < a then b else a) n
def gMax := gOnI fun ns => match ns with | [] => none | n :: ns => some (.st, .int (maxI n ns))
def gMin := gOnI fun ns => match ns with | [] => none | n :: ns => some (.st, .int (minI n ns))
def gAny := gOnB fun bs => some (.st, .bl (bs.any id))
def gAll := gOnB fun bs => some (.st, .bl (bs.all id))
def sortI (ns : List Int) : List Int := ns.mergeSort (fun a b => decide (a ≤ b))
def gSorted := gOnI fun ns => some (.fr, .lst ((sortI ns).map D.int))
theorem sortI_perm (ns : List Int) : (sortI ns).Perm ns := List.mergeSort_perm _ _
theorem sortI_ord (ns : List Int) : (sortI ns).Pairwise (· ≤ ·) := by
  have h := List.pairwise_mergeSort (le := fun a b : Int => decide (a ≤ b)) (fun a b c h1 h2 => by simp at *; omega) (fun a b => by simp; omega) ns
  refine h.imp fun h => ?_
  simpa using h
theorem maxI_spec : ∀ (ns : List Int) (n : Int), maxI n ns ∈ n :: ns ∧ ∀ y ∈ n :: ns, y ≤ maxI n ns
  | [], n => by simp [maxI]
  | m :: ns, n => by
    have hz : ∃ z, (if m > n then m else n) = z ∧ n ≤ z ∧ m ≤ z ∧ (z = m ∨ z = n) := ⟨_, rfl, by split <;> omega, by split <;> omega, by split <;> simp⟩
    obtain ⟨z, ez, z1, z2, z3⟩ := hz
    have ih := maxI_spec ns z
    have e : maxI n (m :: ns) = maxI z ns := by rw [← ez]; rfl
    rw [e]
    have h0 := ih.2 _ List.mem_cons_self
    refine ⟨?_, fun y hy => ?_⟩
    · rcases List.mem_cons.mp ih.1 with h | h
      · rw [h]; rcases z3 with z3 | z3 <;> simp [z3]
      · simp [h]
    · rcases List.mem_cons.mp hy with h | h
      · omega
      · rcases List.mem_cons.mp h with h | h
        · omega
        · exact ih.2 y (List.mem_cons_of_mem _ h)
theorem minI_spec : ∀ (ns : List Int) (n : Int), minI n ns ∈ n :: ns ∧ ∀ y ∈ n :: ns, minI n ns ≤ y
  | [], n => by simp [minI]
  | m :: ns, n => by
    have hz : ∃ z, (if m < n then m else n) = z ∧ z ≤ n ∧ z ≤ m ∧ (z = m ∨ z = n) := ⟨_, rfl, by split <;> omega, by split <;> omega, by split <;> simp⟩
    obtain ⟨z, ez, z1, z2, z3⟩ := hz
    have ih := minI_spec ns z
    have e : minI n (m :: ns) = minI z ns := by rw [← ez]; rfl
    rw [e]
    have h0 := ih.2 _ List.mem_cons_self
    refine ⟨?_, fun y hy => ?_⟩
    · rcases List.mem_cons.mp ih.1 with h | h
      · rw [h]; rcases z3 with z3 | z3 <;> simp [z3]
      · simp [h]
    · rcases List.mem_cons.mp hy with h | h
      · omega
      · rcases List.mem_cons.mp h with h | h
        · omega
        · exact ih.2 y (List.mem_cons_of_mem _ h)
theorem oI {ns : List Int} {x : V} (s : Sr A B Hb H σ c) (hx : RepO A Hb H (.lst (ns.map D.int)) x) : ∃ a, x = V.ref a ∧ H a = some (.lst (ns.map V.int)) := by
  obtain ⟨a, xs, rfl, h1, h2⟩ := hx.lst s.same
  rw [h2.ints] at h1
  exact ⟨a, rfl, h1⟩
theorem oB {ns : List Bool} {x : V} (s : Sr A B Hb H σ c) (hx : RepO A Hb H (.lst (ns.map D.bl)) x) : ∃ a, x = V.ref a ∧ H a = some (.lst (ns.map V.bl)) := by
  obtain ⟨a, xs, rfl, h1, h2⟩ := hx.lst s.same
  rw [h2.bls] at h1
  exact ⟨a, rfl, h1⟩
theorem cd_sum (hc : X.calm = true) : CaD1 X A (.builtin "sum") gSum := by
  refine ⟨_, cr_sum hc, fun B Hb H σ c da x k d Q s hx e q => ?_⟩
  obtain ⟨ns, rfl, e1⟩ := gOnI_inv e
  cases e1
  obtain ⟨a, rfl, h1⟩ := oI s hx
  exact ⟨a, ns, rfl, SqL.of h1, q _ Hb H s .refl rk_int⟩
theorem cd_max (hc : X.calm = true) : CaD1 X A (.builtin "max") gMax := by
  refine ⟨_, cr_max hc, fun B Hb H σ c da x k d Q s hx e q => ?_⟩
  obtain ⟨ns, rfl, e1⟩ := gOnI_inv e
  cases ns with
  | nil => cases e1
  | cons n ns =>
    cases e1
    obtain ⟨a, rfl, h1⟩ := oI s hx
    refine ⟨a, n :: ns, rfl, SqL.of h1, by simp, fun m hm hy => ?_⟩
    have sp := maxI_spec ns n
    have : m = maxI n ns := Int.le_antisymm (sp.2 m hm) (hy _ sp.1)
    subst this
    exact q _ Hb H s .refl rk_int
theorem cd_min (hc : X.calm = true) : CaD1 X A (.builtin "min") gMin := by
  refine ⟨_, cr_min hc, fun B Hb H σ c da x k d Q s hx e q => ?_⟩
  obtain ⟨ns, rfl, e1⟩ := gOnI_inv e
  cases ns with
  | nil => cases e1
  | cons n ns =>
    cases e1
    obtain ⟨a, rfl, h1⟩ := oI s hx
    refine ⟨a, n :: ns, rfl, SqL.of h1, by simp, fun m hm hy => ?_⟩
    have sp := minI_spec ns n
    have : m = minI n ns := Int.le_antisymm (hy _ sp.1) (sp.2 m hm)
    subst this
    exact q _ Hb H s .refl rk_int
theorem cd_any (hc : X.calm = true) : CaD1 X A (.builtin "any") gAny := by
  refine ⟨_, cr_any hc, fun B Hb H σ c da x k d Q s hx e q => ?_⟩
  obtain ⟨ns, rfl, e1⟩ := gOnB_inv e
  cases e1
  obtain ⟨a, rfl, h1⟩ := oB s hx
  exact ⟨a, ns, rfl, SqL.of h1, q _ Hb H s .refl rk_bl⟩
theorem cd_all (hc : X.calm = true) : CaD1 X A (.builtin "all") gAll := by
  refine ⟨_, cr_all hc, fun B Hb H σ c da x k d Q s hx e q => ?_⟩
  obtain ⟨ns, rfl, e1⟩ := gOnB_inv e
  cases e1
  obtain ⟨a, rfl, h1⟩ := oB s hx
  exact ⟨a, ns, rfl, SqL.of h1, q _ Hb H s .refl rk_bl⟩
theorem cd_sorted : CaD1 X A (.builtin "sorted") gSorted := by
  refine ⟨_, cr_sortedI, fun B Hb H σ c da x k d Q s hx e q => ?_⟩
  obtain ⟨ns, rfl, e1⟩ := gOnI_inv e
  cases e1
  obtain ⟨a, rfl, h1⟩ := oI s hx
  refine ⟨a, ns, rfl, SqL.of h1, fun ns' p hp ho hn => ?_⟩
  have : ns' = sortI ns := PySem.W.ksm_same (hp.trans (sortI_perm ns).symm) ho (sortI_ord ns)
  subst this
  obtain ⟨s4, t4, r4⟩ := s.newLst hn (RepL.of_ints (A := A) (H := Hb) (sortI ns))
  exact q _ _ _ s4 t4 r4
end
end DL
namespace DL
open PySem PySem.Spec PyProof.Rows L2

/-! ### statements -/
inductive SR where
  | nx (c : Cfg) | ret (fr : Bool) (d : D) (W : Wd) | brk (c : Cfg) | cnt (c : Cfg) | exc (x : XD) (c : Cfg) | bad
abbrev SF := Cfg → SR
def RepR (A : Am) (B : Bs) (Hb H : Hp) : Bool → D → V → Prop
  | false, d, v => Rep A Hb d v
  | true, d, v => ∃ a, FrO A B Hb H d v a
def SPost (A : Am) (B : Bs) (E : XS) (Hb : Hp) (D : Ends) : SR → Prop
  | .nx c' => ∀ (σ' : L2.St) (Hb' H' : Hp), Same Hb Hb' → Sr A B Hb' H' σ' c' → D.nx σ' H'
  | .brk c' => ∀ (σ' : L2.St) (Hb' H' : Hp), Same Hb Hb' → Sr A B Hb' H' σ' c' → D.bk σ' H'
  | .cnt c' => ∀ (σ' : L2.St) (Hb' H' : Hp), Same Hb Hb' → Sr A B Hb' H' σ' c' → D.ct σ' H'
  | .ret fr d W' => ∀ (v : V) (Hb' H' : Hp), Fin A B Hb' H' W' → RepR A B Hb' H' fr d v → D.rt v H'
  | .exc x c' => ∀ σ' : L2.St, ExcC A B (E σ') Hb σ' x c'
  | .bad => False
def rdS (A : Am) (B : Bs) (E : XS) (f : SF) : TS := fun D σ H => ∃ (Hb : Hp) (c : Cfg), Sr A B Hb H σ c ∧ SPost A B E Hb D (f c)
def DS (X : Cx) (A : Am) (B : Bs) (E : XS) (st : Stmt) (f : SF) : Prop := PS X st (rdS A B E f)
def DSs (X : Cx) (A : Am) (B : Bs) (E : XS) (st : List Stmt) (f : SF) : Prop := PSs X st (rdS A B E f)
def SR.bind (r : SR) (f : SF) : SR := match r with
  | .nx c => f c
  | .ret fr d W => .ret fr d W
  | .brk c => .brk c
  | .cnt c => .cnt c
  | .exc x W => .exc x W
  | .bad => .bad
@[simp] theorem sbind_nx {c} {f : SF} : (SR.nx c).bind f = f c := rfl
@[simp] theorem sbind_ret {fr d W} {f : SF} : (SR.ret fr d W).bind f = .ret fr d W := rfl
@[simp] theorem sbind_brk {c} {f : SF} : (SR.brk c).bind f = .brk c := rfl
@[simp] theorem sbind_cnt {c} {f : SF} : (SR.cnt c).bind f = .cnt c := rfl
@[simp] theorem sbind_exc {x W} {f : SF} : (SR.exc x W).bind f = .exc x W := rfl
@[simp] theorem sbind_bad {f : SF} : SR.bad.bind f = .bad := rfl
def ER.toS (r : ER) (f : Kd → D → Cfg → SR) : SR := match r with
  | .ok k d c => f k d c
  | .exc x W => .exc x W
  | .bad => .bad
@[simp] theorem toS_ok {k d c} {f : Kd → D → Cfg → SR} : (ER.ok k d c).toS f = f k d c := rfl
@[simp] theorem toS_exc {x W} {f : Kd → D → Cfg → SR} : (ER.exc x W).toS f = .exc x W := rfl
@[simp] theorem toS_bad {f : Kd → D → Cfg → SR} : ER.bad.toS f = .bad := rfl
def sSeq (f g : SF) : SF := fun c => (f c).bind g
def sNil : SF := fun c => .nx c
/-- a result goes into a slot -/
def putK (i : Nat) (k : Kd) (d : D) (c : Cfg) : SR := if i < c.r.length then (match k with
  | .st => .nx (c.put i (some (false, d)))
  | .fr => .nx (c.put i (some (true, d)))
  | .bo => .bad) else .bad
def sSet (i : Nat) (f : EF) : SF := fun c => (f c).toS (putK i)
def sDrop (f : EF) : SF := fun c => (f c).toS fun _ _ c1 => .nx c1
def sRet (f : EF) : SF := fun c => (f c).toS fun k d c1 => match k with
  | .st => .ret false d c1.W
  | .fr => .ret true d c1.W
  | .bo => .bad
def sRetN : SF := fun c => .ret false .non c.W
def sIf (ft : EF) (f g : SF) : SF := fun c => (ft c).toS fun _ d c1 => match d with | .bl b => (if b then f c1 else g c1) | _ => .bad
def sBrk : SF := fun c => .brk c
def sCnt : SF := fun c => .cnt c
section
variable {X : Cx} {A : Am} {B : Bs} {E : XS} {Hb H Hb1 H1 : Hp} {σ : List (Option V)} {c c1 : Cfg} {fa fb fc : EF} {f g : SF} {De : Ends}
theorem SPost.mono {r : SR} (e : Same Hb Hb1) (h : SPost A B E Hb De r) : SPost A B E Hb1 De r := by
  cases r with
  | nx c' => exact fun σ' Hb' H' e' s => h σ' Hb' H' (e.trans e') s
  | brk c' => exact fun σ' Hb' H' e' s => h σ' Hb' H' (e.trans e') s
  | cnt c' => exact fun σ' Hb' H' e' s => h σ' Hb' H' (e.trans e') s
  | ret fr d W => exact h
  | exc x c' => exact fun σ' => ExcC.mono e (h σ')
  | bad => exact h
theorem rs_then {K : Kd → D → Cfg → SR} {Q' : VK} (s : Sr A B Hb H σ c) (h : SPost A B E Hb De ((fa c).toS K))
    (n : ∀ k d c1 v Hb1 H1, fa c = .ok k d c1 → Sr A B Hb1 H1 σ c1 → Stp A Hb H Hb1 H1 → RepK A B Hb1 H1 σ c1 k d v → SPost A B E Hb1 De (K k d c1) → Q' v H1) : rdE A B E fa σ H Q' := by
  refine ⟨Hb, c, s, ?_⟩
  cases e : fa c with
  | ok k d c1 =>
    rw [e] at h
    exact fun v Hb1 H1 s1 t k1 => n k d c1 v Hb1 H1 e s1 t k1 (h.mono t.b)
  | exc x W => rw [e] at h; exact (h σ).toE
  | bad => rw [e] at h; exact h
theorem rs_thenT {K : Bool → Cfg → SR} {Q' : Bool → Hp → Prop} (s : Sr A B Hb H σ c) (h : SPost A B E Hb De ((fa c).toS fun _ d c1 => match d with | .bl b => K b c1 | _ => .bad))
    (n : ∀ b c1 Hb1 H1, Sr A B Hb1 H1 σ c1 → SPost A B E Hb1 De (K b c1) → Q' b H1) : rdT A B E fa σ H Q' := by
  refine ⟨Hb, c, s, ?_⟩
  cases e : fa c with
  | ok k d c1 =>
    rw [e] at h
    cases d with
    | bl b => exact ⟨b, rfl, fun Hb1 H1 s1 t => n b c1 Hb1 H1 s1 (h.mono t.b)⟩
    | _ => exact False.elim h
  | exc x W => rw [e] at h; exact (h σ).toE
  | bad => rw [e] at h; exact h
theorem dss_nil : DSs X A B E [] sNil := PSs.imp pss_nil fun D σ H ⟨Hb, c, s, q⟩ => q σ Hb H (Same.refl _) s
theorem dss_cons {st : Stmt} {sts : List Stmt} (h1 : DS X A B E st f) (h2 : DSs X A B E sts g) : DSs X A B E (st :: sts) (sSeq f g) := PSs.imp (pss_cons h1 h2) fun D σ H ⟨Hb, c, s, q⟩ => by
  refine ⟨Hb, c, s, ?_⟩
  unfold sSeq at q
  cases e : f c with
  | nx c1 => rw [e] at q; exact fun σ' Hb' H' e1 s1 => ⟨Hb', c1, s1, q.mono e1⟩
  | ret fr d W => rw [e] at q; exact q
  | brk c1 => rw [e] at q; exact q
  | cnt c1 => rw [e] at q; exact q
  | exc x W => rw [e] at q; exact q
  | bad => rw [e] at q; exact q
theorem dss_one {st : Stmt} (h1 : DS X A B E st f) : DSs X A B E [st] f := PSs.imp (pss_one h1) fun D σ H q => q
theorem Sr.putK {i : Nat} {k : Kd} {d : D} {v : V} (s : Sr A B Hb H σ c) (r : RepK A B Hb H σ c k d v) (q : SPost A B E Hb De (putK i k d c)) : De.nx (σ.set i (some v)) H := by
  unfold DL.putK at q
  split at q
  · rename_i hi
    cases k with
    | st => exact q _ Hb H (Same.refl _) (s.setS hi r)
    | fr =>
      obtain ⟨a, h1, h2⟩ := r
      exact q _ Hb H (Same.refl _) (s.setO hi h1 h2)
    | bo => exact False.elim q
  · exact False.elim q
/-- name = e, by whatever rule the statement has -/
theorem ds_set {i : Nat} {st : Stmt} (h : PS X st (tAsg (rdE A B E fa) (gName i))) : DS X A B E st (sSet i fa) := PS.imp h fun D σ H ⟨Hb, c, s, q⟩ => by
  show rdE A B E fa σ H fun x H1 => D.nx (σ.set i (some x)) H1
  exact rs_then s q fun k d c1 v Hb1 H1 _ s1 _ k1 q1 => s1.putK k1 q1
theorem ds_drop {e : Expr} {pos : Pos} (he : DE X A B E e fa) (hs : swapsWith e none pos.line X.env = pure false := by rfl) : DS X A B E (.Expr e pos) (sDrop fa) := PS.imp (ps_expr he hs) fun D σ H ⟨Hb, c, s, q⟩ => by
  show rdE A B E fa σ H fun x H1 => D.nx σ H1
  exact rs_then s q fun k d c1 v Hb1 H1 _ s1 _ k1 q1 => q1 σ Hb1 H1 (Same.refl _) s1
theorem ds_ret {e : Expr} {pos : Pos} (he : DE X A B E e fa) : DS X A B E (.Return (some e) pos) (sRet fa) := PS.imp (ps_ret he) fun D σ H ⟨Hb, c, s, q⟩ => by
  show rdE A B E fa σ H D.rt
  refine rs_then s q fun k d c1 v Hb1 H1 _ s1 _ k1 q1 => ?_
  cases k with
  | st => exact q1 v Hb1 H1 s1.fin k1
  | fr =>
    obtain ⟨a, h1, h2⟩ := k1
    exact q1 v Hb1 H1 s1.fin ⟨a, h1⟩
  | bo => exact False.elim q1
theorem ds_retN {pos : Pos} : DS X A B E (.Return none pos) sRetN := PS.imp ps_retN fun D σ H ⟨Hb, c, s, q⟩ => q .non Hb H s.fin ((rep_non (A := A) (H := Hb)).mpr rfl)
theorem ds_if {t : Expr} {a b : List Stmt} {pos : Pos} (ht : DT X A B E t fa) (ha : DSs X A B E a f) (hb : DSs X A B E b g) : DS X A B E (.If t a b pos) (sIf fa f g) := PS.imp (ps_if ht ha hb) fun D σ H ⟨Hb, c, s, q⟩ => by
  show rdT A B E fa σ H _
  refine rs_thenT (K := fun b c1 => if b then f c1 else g c1) s q fun b c1 Hb1 H1 s1 q1 => ?_
  cases b with
  | true => exact ⟨Hb1, c1, s1, q1⟩
  | false => exact ⟨Hb1, c1, s1, q1⟩
/-! ### a list of the frame's own is changed -/
theorem tabs_upd {T : List (Addr × Str)} {H : Hp} {a : Addr} {xs : List V} {o : HO} (t : LamX.Tabs T H) (h : H a = some (.lst xs)) : LamX.Tabs T (upd H a o) := fun p hp => by
  obtain ⟨ps, h1, h2, h3⟩ := t p hp
  refine ⟨ps, ?_, h2, fun pos cv hc => ?_⟩
  · rw [upd_ne (ne_of h1 h (by intro z; cases z))]
    exact h1
  · obtain ⟨cc, e1, e2⟩ := h3 pos cv hc
    refine ⟨cc, e1, ?_⟩
    rw [upd_ne (ne_of e2 h (by intro z; unfold LamX.CodeO at z; cases z))]
    exact e2
theorem Sr.mut {i : Nat} {ds ds' : List D} {xs' : List V} (s : Sr A B Hb H σ c) (h : c.r[i]? = some (some (true, .lst ds))) (a : Addr) (ha : σ[i]? = some (some (V.ref a))) (r : RepL A Hb ds' xs') :
    Sr A B Hb (upd H a (.lst xs')) σ (c.put i (some (true, .lst ds'))) := by
  obtain ⟨a', o, h1, h2, ⟨xs, h3, h4⟩, h5, h6, h7⟩ := s.ow i _ h
  rw [ha] at h1
  cases h1
  subst h3
  have hi : i < c.r.length := (List.getElem?_eq_some_iff.mp h).1
  have hw : ∀ w, A.ws = some w → w.1 ≠ a ∧ w.2 ≠ a := fun w hw => ⟨fun z => h6 ⟨w, hw, .inl z.symm⟩, fun z => h6 ⟨w, hw, .inr z.symm⟩⟩
  refine ⟨⟨⟨fun p u e => ?_, s.fin.hr.notb, fun w e => ?_, tabs_upd s.fin.hr.tabs h2⟩, s.fin.b0, ⟨fun p u e n0 => ?_, fun p u e n t => ?_⟩, s.fin.nb⟩, by simp [Cfg.put, s.len], fun j d e => ?_, fun j d e => ?_, fun j l dj dl b hj hl e1 e2 => ?_, fun p hp => ?_⟩
  rotate_right
  · obtain ⟨⟨u, g1, n1⟩, g2, g3⟩ := s.pr p hp
    have hpa : p ≠ a := fun z => g3 i _ h (by rw [ha, z])
    refine ⟨⟨u, by rw [upd_ne hpa]; exact g1, n1⟩, g2, fun j d hj z => ?_⟩
    rcases put_get hj with ⟨rfl, q⟩ | ⟨n, q⟩
    · exact g3 _ _ h z
    · exact g3 j d q z
  · have : p ≠ a := ne_of_none e h5
    rw [upd_ne this]
    exact s.fin.hr.same p u e
  · obtain ⟨w1, w2, w3, w4, w5⟩ := s.fin.hr.w w e
    obtain ⟨n1, n2⟩ := hw w e
    exact ⟨by rw [upd_ne n1]; exact w1, by rw [upd_ne n2]; exact w2, w3, w4, w5⟩
  · by_cases hp : p = a
    · subst hp; exact ⟨_, upd_same, fun _ z => by cases z⟩
    · rw [upd_ne hp]; exact s.fin.kp.it p u e n0
  · have : p ≠ a := h7.ne e t
    rw [upd_ne this]
    exact s.fin.kp.eq p u e n t
  · rcases put_get e with ⟨rfl, q⟩ | ⟨n, q⟩
    · cases q
    · exact s.sh j d q
  · rcases put_get e with ⟨rfl, q⟩ | ⟨n, q⟩
    · cases q
      exact ⟨a, _, ha, upd_same, ⟨_, rfl, r⟩, h5, h6, h7⟩
    · obtain ⟨b, u, g1, g2, g3⟩ := s.ow j d q
      have : b ≠ a := fun z => n (s.sep j i d _ a q h (by rw [g1, z]) ha)
      exact ⟨b, u, g1, by rw [upd_ne this]; exact g2, g3⟩
  · have f : ∀ {j d}, (c.put i (some (true, .lst ds'))).r[j]? = some (some (true, d)) → ∃ d', c.r[j]? = some (some (true, d')) := fun {j d} e => by
      rcases put_get e with ⟨rfl, q⟩ | ⟨n, q⟩
      · exact ⟨_, h⟩
      · exact ⟨_, q⟩
    obtain ⟨dj', hj'⟩ := f hj
    obtain ⟨dl', hl'⟩ := f hl
    exact s.sep j l dj' dl' b hj' hl' e1 e2
theorem own_at {i : Nat} {ds : List D} (s : Sr A B Hb H σ c) (h : c.r[i]? = some (some (true, .lst ds))) : ∃ a xs, σ[i]? = some (some (V.ref a)) ∧ H a = some (.lst xs) ∧ RepL A Hb ds xs := by
  obtain ⟨a, o, h1, h2, ⟨xs, h3, h4⟩, _⟩ := s.ow i _ h
  subst h3
  exact ⟨a, xs, h1, h2, h4⟩
/-- the own list of a slot -/
def ownL (c : Cfg) (i : Nat) : Option (List D) := match c.r[i]? with
  | some (some (true, .lst ds)) => some ds
  | _ => none
theorem ownL_eq {i : Nat} {ds : List D} (h : ownL c i = some ds) : c.r[i]? = some (some (true, .lst ds)) := by
  unfold ownL at h
  split at h
  · rename_i ds' e
    cases h
    exact e
  · cases h
theorem keepS {k : Kd} {d : D} {v : V} (s : Sr A B Hb H σ c) (h : RepK A B Hb H σ c k d v) (hk : k ≠ .bo) : ∃ Hb', Sr A B Hb' H σ c ∧ Same Hb Hb' ∧ Rep A Hb' d v := h.keep s hk
/-- x.append(e) -/
def sApp (i : Nat) (fe : EF) : SF := fun c => if (ownL c i).isSome then (fe c).toS (fun k d c1 => match k with
  | .bo => .bad
  | _ => match ownL c1 i with
    | some ds => if ds.length < big then .nx (c1.put i (some (true, .lst (ds ++ [d])))) else .bad
    | none => .bad) else .bad
theorem ds_app {i : Nat} {st : Stmt} (h : PS X st (tDrop (tBM X.K "list" rAppend (tVar i) (tCons (rdE A B E fa) tNil)))) : DS X A B E st (sApp i fa) := PS.imp h fun D σ H ⟨Hb, c, s, q⟩ => by
  unfold sApp at q
  split at q
  · rename_i ho
    obtain ⟨ds0, e0⟩ := Option.isSome_iff_exists.mp ho
    obtain ⟨a, xs0, h1, h2, _⟩ := own_at s (ownL_eq e0)
    refine ⟨_, h1, Or.inl ⟨rfl, _, Or.inl (Or.inl h2)⟩, ?_⟩
    refine rs_then s q fun k d c1 v Hb1 H1 _ s1 t1 k1 q1 => ?_
    have key : k ≠ .bo → SPost A B E Hb1 D (match ownL c1 i with
      | some ds => if ds.length < big then .nx (c1.put i (some (true, .lst (ds ++ [d])))) else .bad
      | none => .bad) → rAppend (V.ref a) [v] H1 fun _ H2 => D.nx σ H2 := fun hk q1 => by
      split at q1
      · rename_i ds e1
        split at q1
        · rename_i hl
          obtain ⟨Hb2, s2, e2, r2⟩ := keepS s1 k1 hk
          obtain ⟨a', xs, g1, g2, g3⟩ := own_at s2 (ownL_eq e1)
          rw [h1] at g1
          cases g1
          refine ⟨a, xs, v, rfl, rfl, g2, ?_, ?_⟩
          · rw [← g3.len]
            exact Nat.lt_of_lt_of_le hl (by rw [sizeLine_eq]; decide)
          · exact q1 _ _ _ e2 (s2.mut (ownL_eq e1) a h1 (g3.append (RepL.cons r2 RepL.nil)))
        · exact False.elim q1
      · exact False.elim q1
    cases k with
    | st => exact key (by intro z; cases z) q1
    | fr => exact key (by intro z; cases z) q1
    | bo => exact False.elim q1
  · exact False.elim q
end
end DL
namespace DL
open PySem PySem.Spec PyProof.Rows L2

/-! ### x[i] = e, x the frame's own list -/
def sPutI (i : Nat) (fi fe : EF) : SF := fun c => (fe c).toS fun k d c1 => match k with
  | .bo => .bad
  | _ => if (ownL c1 i).isSome then (fi c1).toS (fun _ di c2 => match di, ownL c2 i with
    | .int n, some ds => match ixN ds.length n with
      | some j => .nx (c2.put i (some (true, .lst (ds.set j d))))
      | none => .bad
    | _, _ => .bad) else .bad
section
variable {X : Cx} {A : Am} {B : Bs} {E : XS} {Hb H Hb1 H1 : Hp} {σ : List (Option V)} {c c1 : Cfg} {fa fb fc : EF} {f g : SF} {De : Ends} {ga gb : AF}
theorem ds_putI {i : Nat} {st : Stmt} (h : PS X st (tAsg (rdE A B E fa) (gSub (tVar i) (rdE A B E fb) rSetL))) : DS X A B E st (sPutI i fb fa) := PS.imp h fun D σ H ⟨Hb, c, s, q⟩ => by
  show rdE A B E fa σ H _
  refine rs_then s q fun k d c1 v Hb1 H1 _ s1 _ k1 q1 => ?_
  have key : k ≠ .bo → SPost A B E Hb1 D (if (ownL c1 i).isSome then (fb c1).toS (fun _ di c2 => match di, ownL c2 i with
    | .int n, some ds => match ixN ds.length n with
      | some j => .nx (c2.put i (some (true, .lst (ds.set j d))))
      | none => .bad
    | _, _ => .bad) else .bad) → gSub (tVar i) (rdE A B E fb) rSetL v σ H1 D.nx := fun hk q1 => by
    split at q1
    · rename_i ho
      obtain ⟨Hb2, s2, e2, r2⟩ := keepS s1 k1 hk
      obtain ⟨ds0, e0⟩ := Option.isSome_iff_exists.mp ho
      obtain ⟨a, xs0, h1, h2, _⟩ := own_at s2 (ownL_eq e0)
      refine ⟨_, h1, ?_⟩
      refine rs_then s2 (q1.mono e2) fun k' d' c2 v' Hb3 H3 _ s3 t3 k3 q3 => ?_
      cases d' with
      | int n =>
        cases eo : ownL c2 i with
        | none => rw [eo] at q3; exact False.elim q3
        | some ds =>
          rw [eo] at q3
          dsimp only at q3
          cases ej : ixN ds.length n with
          | none => rw [ej] at q3; exact False.elim q3
          | some j =>
            rw [ej] at q3
            obtain ⟨a', xs, g1, g2, g3⟩ := own_at s3 (ownL_eq eo)
            rw [h1] at g1
            cases g1
            refine ⟨a, xs, n, j, rfl, k3.o.int, g2, by rw [← g3.len]; exact ej, ?_⟩
            exact q3 _ _ _ (Same.refl _) (s3.mut (ownL_eq eo) a h1 (g3.set j (Rep.mono t3.b _ _ r2)))
      | _ => exact False.elim q3
    · exact False.elim q1
  cases k with
  | st => exact key (by intro z; cases z) q1
  | fr => exact key (by intro z; cases z) q1
  | bo => exact False.elim q1
/-! ### targets -/
/-- a target takes data: what becomes of the slots; those at js alone change -/
def TgS (A : Am) (t : TG) (js : List Nat) (f : D → Cfg → Option Cfg) : Prop := ∀ (B : Bs) (Hb H : Hp) (σ : List (Option V)) (c c' : Cfg) (d : D) (v : V) (Q : L2.St → Hp → Prop), Sr A B Hb H σ c → Rep A Hb d v → f d c = some c' →
  (∀ σ' : List (Option V), Sr A B Hb H σ' c' → (σ'.length = σ.length ∧ ∀ i : Nat, i ∉ js → σ'[i]? = σ[i]?) → Q σ' H) → t v σ H Q
def TgsS (A : Am) (t : TGs) (js : List Nat) (f : List D → Cfg → Option Cfg) : Prop := ∀ (B : Bs) (Hb H : Hp) (σ : List (Option V)) (c c' : Cfg) (ds : List D) (vs : List V) (Q : L2.St → Hp → Prop), Sr A B Hb H σ c → RepL A Hb ds vs → f ds c = some c' →
  (∀ σ' : List (Option V), Sr A B Hb H σ' c' → (σ'.length = σ.length ∧ ∀ i : Nat, i ∉ js → σ'[i]? = σ[i]?) → Q σ' H) → t vs σ H Q
def tgN (i : Nat) (d : D) (c : Cfg) : Option Cfg := if i < c.r.length then some (c.put i (some (false, d))) else none
theorem tgs_name {i : Nat} : TgS A (gName i) [i] (tgN i) := fun B Hb H σ c c' d v Q s r e q => by
  unfold tgN at e
  split at e
  · rename_i hi
    cases e
    refine q _ (s.setS hi r) ⟨List.length_set, fun j hj => List.getElem?_set_ne fun z => hj ?_⟩
    rw [z]
    exact List.mem_singleton.mpr rfl
  · cases e
def tgNil : List D → Cfg → Option Cfg
  | [], c => some c
  | _, _ => none
def tgCons (f : D → Cfg → Option Cfg) (g : List D → Cfg → Option Cfg) : List D → Cfg → Option Cfg
  | d :: ds, c => (f d c).bind (g ds)
  | _, _ => none
theorem tgs_nil : TgsS A gNil [] tgNil := fun B Hb H σ c c' ds vs Q s r e q => by
  cases ds with
  | nil => cases e; exact ⟨repL_nil.mp r, q _ s ⟨rfl, fun _ _ => rfl⟩⟩
  | cons d ds => cases e
theorem tgs_cons {t : TG} {u : TGs} {js ls : List Nat} {f : D → Cfg → Option Cfg} {g : List D → Cfg → Option Cfg} (h1 : TgS A t js f) (h2 : TgsS A u ls g) : TgsS A (gCons t u) (js ++ ls) (tgCons f g) := fun B Hb H σ c c' ds vs Q s r e q => by
  cases ds with
  | nil => cases e
  | cons d ds =>
    obtain ⟨x, xs, rfl, hx, hr⟩ := repL_cons.mp r
    replace e : (f d c).bind (g ds) = some c' := e
    cases e1 : f d c with
    | none => rw [e1] at e; cases e
    | some c1 =>
      rw [e1] at e
      exact ⟨x, xs, rfl, h1 B Hb H σ c c1 d x _ s hx e1 fun σ' s1 k1 => h2 B Hb H σ' c1 c' ds xs Q s1 hr e fun σ2 s2 k2 => q σ2 s2 ⟨k2.1.trans k1.1, fun i hi => (k2.2 i fun z => hi (List.mem_append_right _ z)).trans (k1.2 i fun z => hi (List.mem_append_left _ z))⟩⟩
def tgTup (n : Nat) (g : List D → Cfg → Option Cfg) : D → Cfg → Option Cfg
  | .tup ds, c => if ds.length = n then g ds c else none
  | _, _ => none
theorem tgs_tup {K : PySem.W.Frag} {t : TGs} {js : List Nat} {n : Nat} {g : List D → Cfg → Option Cfg} (h : TgsS A t js g) : TgS A (gTup K n t) js (tgTup n g) := fun B Hb H σ c c' d v Q s r e q => by
  cases d with
  | tup ds =>
    replace e : (if ds.length = n then g ds c else none) = some c' := e
    by_cases hl : ds.length = n
    · rw [if_pos hl] at e
      obtain ⟨a, xs, rfl, g1, g2⟩ := rep_tup.mp r
      exact ⟨a, xs, rfl, SqT.of (s.same _ _ g1), by rw [← g2.len]; exact hl, h B Hb H σ c c' ds xs Q s g2 e q⟩
    · rw [if_neg hl] at e; cases e
  | _ => cases e
/-- target = e -/
def sAsg (f : D → Cfg → Option Cfg) (fe : EF) : SF := fun c => (fe c).toS fun k d c1 => match k with
  | .bo => .bad
  | _ => match f d c1 with
    | some c2 => .nx c2
    | none => .bad
theorem ds_asg {tg e : Expr} {pos : Pos} {f : D → Cfg → Option Cfg} {t : TG} {js : List Nat} (he : DE X A B E e fa) (ht : PG X tg t) (ht' : TgS A t js f) (hs : swapsWithSole [tg] e pos.line X.env = pure false := by rfl) (hw : swappedStores [tg] e X.env = pure none := by rfl)
    (h1 : (assignEach [tg] X.env).map (·.2) = [assign tg X.env] := by rfl) : DS X A B E (.Assign [tg] e pos) (sAsg f fa) := by
  refine PS.imp (ps_asg he ht hs hw h1) fun D σ H ⟨Hb, c, s, q⟩ => ?_
  show rdE A B E fa σ H fun x H1 => t x σ H1 D.nx
  refine rs_then s q fun k d c1 v Hb1 H1 _ s1 _ k1 q1 => ?_
  have key : k ≠ .bo → SPost A B E Hb1 D (match f d c1 with | some c2 => .nx c2 | none => .bad) → t v σ H1 D.nx := fun hk q1 => by
    obtain ⟨Hb2, s2, e2, r2⟩ := keepS s1 k1 hk
    cases ef : f d c1 with
    | none => rw [ef] at q1; exact False.elim q1
    | some c2 =>
      rw [ef] at q1
      exact ht' B Hb2 H1 σ c1 c2 d v _ s2 r2 ef fun σ' s3 _ => q1 σ' Hb2 H1 e2 s3
  cases k with
  | st => exact key (by intro z; cases z) q1
  | fr => exact key (by intro z; cases z) q1
  | bo => exact False.elim q1
/-- x, y = e1, e2 (plain local names) -/
def evPair (fa fb : EF) (K : Kd → D → Kd → D → Cfg → SR) : SF := fun c => (fa c).toS fun k1 d1 c1 => (fb c1).toS fun k2 d2 c2 => K k1 d1 k2 d2 c2
def sPar (i j : Nat) (fa fb : EF) : SF := fun c => (fa c).toS fun k1 d1 c1 => match k1 with
  | .bo => .bad
  | _ => (fb c1).toS fun k2 d2 c2 => match k2 with
    | .bo => .bad
    | _ => if i < c2.r.length ∧ j < c2.r.length then .nx ((c2.put i (some (false, d1))).put j (some (false, d2))) else .bad
/-! ### what is walked -/
def ItOk (A : Am) (J : It) (Hb0 : Hp) (ds : List D) : Prop := ∀ (i : Nat) (B : Bs) (Hb H : Hp) (σ : List (Option V)) (c : Cfg), Same Hb0 Hb → Sr A B Hb H σ c →
  (i = ds.length → J.stop i H) ∧ ∀ d, ds[i]? = some d → J.go i H ∧ ∀ x H', J.yld i H x H' → ∃ Hb', Same Hb Hb' ∧ Kept A H H' ∧ Sr A B Hb' H' σ c ∧ Rep A Hb' d x
def IPost (A : Am) (B : Bs) (E : XS) (Hb H : Hp) (σ : L2.St) (R : It → Hp → Prop) : AR → Prop
  | .ok ds c' => ∀ (J : It) (Hb' H' : Hp), Sr A B Hb' H' σ c' → Stp A Hb H Hb' H' → ItOk A J Hb' ds → R J H'
  | .exc x c' => ExcE A B (E σ) Hb H σ x c'
  | .bad => False
def rdI (A : Am) (B : Bs) (E : XS) (f : AF) : TI := fun σ H R => ∃ (Hb : Hp) (c : Cfg), Sr A B Hb H σ c ∧ IPost A B E Hb H σ R (f c)
def DI (X : Cx) (A : Am) (B : Bs) (E : XS) (tg iter : Expr) (f : AF) : Prop := PI X tg iter (rdI A B E f)
theorem PI.imp {tg iter : Expr} {w w' : TI} (h : PI X tg iter w) (i : ∀ σ H R, w' σ H R → w σ H R) : PI X tg iter w' := ⟨fun pins s σ H R I q => h.run pins s σ H R I (i σ H R q)⟩
def evItL (fe : EF) : AF := fun c => match fe c with
  | .ok .bo _ _ => .bad
  | .ok _ (.lst ds) c1 => .ok ds c1
  | .ok _ _ _ => .bad
  | .exc x W => .exc x W
  | .bad => .bad
def evItT (fe : EF) : AF := fun c => match fe c with
  | .ok _ (.tup ds) c1 => .ok ds c1
  | .ok _ _ _ => .bad
  | .exc x W => .exc x W
  | .bad => .bad
theorem itok_list {K : PySem.W.Frag} {a : Addr} {xs : List V} {ds : List D} {Hb0 : Hp} (h : Hb0 a = some (.lst xs)) (r : RepL A Hb0 ds xs) : ItOk A (Itl K a) Hb0 ds := fun i B Hb H σ c e s => by
  have hH : H a = some (.lst xs) := s.same _ _ (e _ _ h)
  refine ⟨fun hl => ⟨xs, SqL.of hH, by rw [← r.len]; exact Nat.le_of_eq hl.symm⟩, fun d hd => ?_⟩
  obtain ⟨x, h1, h2⟩ := r.get hd
  refine ⟨⟨xs, x, SqL.of hH, h1⟩, fun y H' hy => ?_⟩
  obtain ⟨rfl, g⟩ := hy
  have := g xs (SqL.of hH)
  rw [h1] at this
  cases this
  exact ⟨Hb, Same.refl _, Kept.refl _, s, Rep.mono e _ _ h2⟩
theorem itok_tup {K : PySem.W.Frag} {a : Addr} {xs : List V} {ds : List D} {Hb0 : Hp} (h : Hb0 a = some (.tup xs)) (r : RepL A Hb0 ds xs) : ItOk A (Itt K a) Hb0 ds := fun i B Hb H σ c e s => by
  have hH : H a = some (.tup xs) := s.same _ _ (e _ _ h)
  refine ⟨fun hl => ⟨xs, SqT.of hH, by rw [← r.len]; exact Nat.le_of_eq hl.symm⟩, fun d hd => ?_⟩
  obtain ⟨x, h1, h2⟩ := r.get hd
  refine ⟨⟨xs, x, SqT.of hH, h1⟩, fun y H' hy => ?_⟩
  obtain ⟨rfl, g⟩ := hy
  have := g xs (SqT.of hH)
  rw [h1] at this
  cases this
  exact ⟨Hb, Same.refl _, Kept.refl _, s, Rep.mono e _ _ h2⟩
theorem PI.or {tg iter : Expr} {w w' : TI} (h : PI X tg iter w) (h' : PI X tg iter w') : PI X tg iter (fun σ H R => w σ H R ∨ w' σ H R) := ⟨fun pins s σ H R I q => by
  rcases q with q | q
  · exact h.run pins s σ H R I q
  · exact h'.run pins s σ H R I q⟩
def evIt (fe : EF) : AF := fun c => match fe c with
  | .ok .bo _ _ => .bad
  | .ok _ (.lst ds) c1 => .ok ds c1
  | .ok _ (.tup ds) c1 => .ok ds c1
  | .ok _ _ _ => .bad
  | .exc x W => .exc x W
  | .bad => .bad
theorem di_seq {tg e : Expr} (he : DE X A B E e fa) : DI X A B E tg e (evIt fa) := PI.imp (PI.or (pi_list he) (pi_tup he)) fun σ H R ⟨Hb, c, s, q⟩ => by
  unfold evIt at q
  cases ef : fa c with
  | ok k d c1 =>
    rw [ef] at q
    cases k with
    | bo => exact False.elim q
    | st =>
      cases d with
      | lst ds =>
        refine .inl ⟨Hb, c, s, ?_⟩
        rw [ef]
        intro v Hb1 H1 s1 t1 k1
        obtain ⟨a, xs, rfl, h1, h2⟩ := rep_lst.mp k1
        exact ⟨a, rfl, ⟨xs, SqL.of (s1.same _ _ h1)⟩, q _ Hb1 H1 s1 t1 (itok_list h1 h2)⟩
      | tup ds =>
        refine .inr ⟨Hb, c, s, ?_⟩
        rw [ef]
        intro v Hb1 H1 s1 t1 k1
        obtain ⟨a, xs, rfl, h1, h2⟩ := rep_tup.mp k1
        exact ⟨a, rfl, ⟨xs, SqT.of (s1.same _ _ h1)⟩, q _ Hb1 H1 s1 t1 (itok_tup h1 h2)⟩
      | _ => exact False.elim q
    | fr =>
      cases d with
      | lst ds =>
        refine .inl ⟨Hb, c, s, ?_⟩
        rw [ef]
        intro v Hb1 H1 s1 t1 k1
        obtain ⟨Hb2, s2, e2, r2⟩ := keepS s1 k1 (by intro z; cases z)
        obtain ⟨a, xs, rfl, h1, h2⟩ := rep_lst.mp r2
        exact ⟨a, rfl, ⟨xs, SqL.of (s2.same _ _ h1)⟩, q _ Hb2 H1 s2 (t1.trans ⟨e2, .refl _⟩) (itok_list h1 h2)⟩
      | tup ds =>
        refine .inr ⟨Hb, c, s, ?_⟩
        rw [ef]
        intro v Hb1 H1 s1 t1 k1
        obtain ⟨Hb2, s2, e2, r2⟩ := keepS s1 k1 (by intro z; cases z)
        obtain ⟨a, xs, rfl, h1, h2⟩ := rep_tup.mp r2
        exact ⟨a, rfl, ⟨xs, SqT.of (s2.same _ _ h1)⟩, q _ Hb2 H1 s2 (t1.trans ⟨e2, .refl _⟩) (itok_tup h1 h2)⟩
      | _ => exact False.elim q
  | exc x W =>
    rw [ef] at q
    refine .inl ⟨Hb, c, s, ?_⟩
    rw [ef]
    exact q
  | bad => rw [ef] at q; exact False.elim q
/-- ints from lo on -/
def rngD (lo : Int) (n : Nat) : List D := (List.range n).map fun i : Nat => D.int (lo + (i : Int))
theorem itok_rng {lo : Int} {n : Nat} {Hb0 : Hp} : ItOk A (Itr lo n) Hb0 (rngD lo n) := fun i B Hb H σ c e s => by
  refine ⟨fun hl => (show n ≤ i by rw [hl]; simp [rngD]), fun d hd => ?_⟩
  unfold rngD at hd
  rw [List.getElem?_map] at hd
  cases er : (List.range n)[i]? with
  | none => rw [er] at hd; cases hd
  | some j =>
    rw [er] at hd
    cases hd
    have hi : i < n := by simpa using (List.getElem?_eq_some_iff.mp er).1
    have : j = i := by simpa [hi] using er.symm
    subst this
    refine ⟨hi, fun x H' hy => ?_⟩
    obtain ⟨rfl, rfl⟩ := hy
    exact ⟨Hb, Same.refl _, Kept.refl _, s, rep_int.mpr rfl⟩
def rOk (i : Int) : Bool := decide (-(2 ^ 62) ≤ i) && decide (i < 2 ^ 62)
theorem rOk_of {i : Int} (h : rOk i = true) : -(2 ^ 62) ≤ i ∧ i < 2 ^ 62 := by
  unfold rOk at h
  rw [Bool.and_eq_true] at h
  exact ⟨of_decide_eq_true h.1, of_decide_eq_true h.2⟩
def evR1 (fe : EF) : AF := fun c => match fe c with
  | .ok _ (.int j) c1 => if rOk j then .ok (rngD 0 j.toNat) c1 else .bad
  | .ok _ _ _ => .bad
  | .exc x W => .exc x W
  | .bad => .bad
theorem di_range1 {tg e : Expr} {p pos : Pos} (hg : Gl X "range") (hm : X.mg "range" = none) (he : DE X A B E e fa) (hs : starEach [e] X.env = [(false, eval e X.env)] := by rfl) (hs' : starEach [e] X.env = (false, eval e X.env) :: starEach [] X.env := by rfl) : DI X A B E tg (.Call (.Name "range" p) [e] [] pos) (evR1 fa) :=
  PI.imp (pi_range1 hg hm (pa_cons he pa_nil hs') hs) fun σ H R ⟨Hb, c, s, q⟩ => by
    refine ⟨Hb, c, s, ?_⟩
    unfold evR1 at q
    cases ef : fa c with
    | ok k d c1 =>
      rw [ef] at q
      cases d with
      | int j =>
        intro v Hb1 H1 s1 t1 k1
        dsimp only at q
        split at q
        · rename_i hr
          have := rOk_of hr
          exact ⟨j, by rw [k1.o.int], this.1, this.2, q _ Hb1 H1 s1 t1 itok_rng⟩
        · exact False.elim q
      | _ => exact False.elim q
    | exc x W => rw [ef] at q; exact q
    | bad => rw [ef] at q; exact False.elim q
def evR2 (fe ff : EF) : AF := fun c => match fe c with
  | .ok _ (.int i) c1 => (match ff c1 with
    | .ok _ (.int j) c2 => if rOk i && rOk j then .ok (rngD i (j - i).toNat) c2 else .bad
    | .ok _ _ _ => .bad
    | .exc x W => .exc x W
    | .bad => .bad)
  | .ok _ _ _ => .bad
  | .exc x W => .exc x W
  | .bad => .bad
theorem di_range2 {tg e e' : Expr} {p pos : Pos} (hg : Gl X "range") (hm : X.mg "range" = none) (he : DE X A B E e fa) (he' : DE X A B E e' fb) (hs : starEach [e, e'] X.env = [(false, eval e X.env), (false, eval e' X.env)] := by rfl) (hs2 : starEach [e'] X.env = [(false, eval e' X.env)] := by rfl) (h1 : starEach [e, e'] X.env = (false, eval e X.env) :: starEach [e'] X.env := by rfl) (h2 : starEach [e'] X.env = (false, eval e' X.env) :: starEach [] X.env := by rfl) :
    DI X A B E tg (.Call (.Name "range" p) [e, e'] [] pos) (evR2 fa fb) :=
  PI.imp (pi_range2 hg hm (pa_cons he (pa_cons he' pa_nil h2) h1) hs hs2) fun σ H R ⟨Hb, c, s, q⟩ => by
    refine ⟨Hb, c, s, ?_⟩
    unfold evR2 at q
    cases ef : fa c with
    | ok k d c1 =>
      rw [ef] at q
      cases d with
      | int i =>
        intro v Hb1 H1 s1 t1 k1
        refine ⟨Hb1, c1, s1, ?_⟩
        dsimp only at q
        cases ef2 : fb c1 with
        | ok k' d' c2 =>
          rw [ef2] at q
          cases d' with
          | int j =>
            intro v2 Hb2 H2 s2 t2 k2
            dsimp only at q
            split at q
            · rename_i hr
              rw [Bool.and_eq_true] at hr
              have r1 := rOk_of hr.1
              have r2 := rOk_of hr.2
              exact ⟨i, j, by rw [k1.o.int, k2.o.int], ⟨r1.1, r1.2, r2.1, r2.2⟩, q _ Hb2 H2 s2 (t1.trans t2) itok_rng⟩
            · exact False.elim q
          | _ => exact False.elim q
        | exc x W => rw [ef2] at q; exact ExcE.mono t1 q
        | bad => rw [ef2] at q; exact False.elim q
      | _ => exact False.elim q
    | exc x W => rw [ef] at q; exact q
    | bad => rw [ef] at q; exact False.elim q
/-! ### for -/
def goFor (tgt : D → Cfg → Option Cfg) (body : SF) : List D → Cfg → SR
  | [], c => .nx c
  | d :: ds, c => match tgt d c with
    | none => .bad
    | some c1 => match body c1 with
      | .nx c2 => goFor tgt body ds c2
      | .cnt c2 => goFor tgt body ds c2
      | .brk c2 => .nx c2
      | .ret fr d W => .ret fr d W
      | .exc x W => .exc x W
      | .bad => .bad
def sFor (it : AF) (tgt : D → Cfg → Option Cfg) (body : SF) : SF := fun c => match it c with
  | .ok ds c1 => goFor tgt body ds c1
  | .exc x W => .exc x W
  | .bad => .bad
theorem ds_for {tg iter : Expr} {body : List Stmt} {pos : Pos} {tgt : D → Cfg → Option Cfg} {t : TG} {js : List Nat} (hp : PassesOwn (model X.prog X.w) X.A X.env X.xe) (hc : X.calm = true) (hi : DI X A B E tg iter ga) (ht : PG X tg t) (ht' : TgS A t js tgt) (hb : DSs X A B E body f) (hf : ∀ x, foldedSetIterable iter X.env x = pure x := by intro _; rfl) :
    DS X A B E (.For tg iter body [] pos) (sFor ga tgt f) := by
  refine PS.imp (ps_for hp hc hi ht hb hf) fun D σ H ⟨Hb, c, s, q⟩ => ?_
  show rdI A B E ga σ H _
  refine ⟨Hb, c, s, ?_⟩
  unfold sFor at q
  cases ei : ga c with
  | exc x W => rw [ei] at q; exact (q σ).toE
  | bad => rw [ei] at q; exact False.elim q
  | ok ds c1 =>
    rw [ei] at q
    intro J Hb0 H0 s0 t0 ok
    refine ⟨fun i m σ' H' => ∃ (Hb' : Hp) (c' : Cfg), Same Hb0 Hb' ∧ Sr A B Hb' H' σ' c' ∧ i + m = ds.length ∧ SPost A B E Hb' D (goFor tgt f (ds.drop i) c'), ⟨ds.length, Hb0, c1, Same.refl _, s0, by omega, (by simpa using q : SPost A B E Hb D _).mono t0.b⟩, ?_⟩
    rintro i m σ' H' ⟨Hb', c', e', s', hm, q'⟩
    obtain ⟨k1, k2⟩ := ok i B Hb' H' σ' c' e' s'
    by_cases hi : i < ds.length
    · have hd : ds[i]? = some ds[i] := List.getElem?_eq_getElem hi
      obtain ⟨g1, g2⟩ := k2 _ hd
      rw [List.drop_eq_getElem_cons hi] at q'
      refine .inr ⟨g1, fun σ2 H2 => ∃ (Hb2 : Hp) (c2 : Cfg), Same Hb0 Hb2 ∧ Sr A B Hb2 H2 σ2 c2 ∧ SPost A B E Hb2 D (goFor tgt f (ds.drop (i + 1)) c2), ?_, ?_⟩
      · rintro σ2 H2 ⟨Hb2, c2, e2, s2, q2⟩
        exact ⟨m - 1, by omega, Hb2, c2, e2, s2, by omega, q2⟩
      · intro x H2 hy
        obtain ⟨Hb2, e2, kp2, s2, r2⟩ := g2 x H2 hy
        have e02 : Same Hb0 Hb2 := e'.trans e2
        unfold goFor at q'
        cases et : tgt ds[i] c' with
        | none => rw [et] at q'; exact False.elim q'
        | some c2 =>
          rw [et] at q'
          refine ht' B Hb2 H2 σ' c' c2 _ x _ s2 r2 et fun σ3 s3 _ => ⟨Hb2, c2, s3, ?_⟩
          dsimp only at q'
          cases eb : f c2 with
          | nx c3 =>
            rw [eb] at q'
            exact fun σ4 Hb4 H4 e4 s4 => ⟨Hb4, c3, e02.trans e4, s4, q'.mono (e2.trans e4)⟩
          | cnt c3 =>
            rw [eb] at q'
            exact fun σ4 Hb4 H4 e4 s4 => ⟨Hb4, c3, e02.trans e4, s4, q'.mono (e2.trans e4)⟩
          | brk c3 =>
            rw [eb] at q'
            exact fun σ4 Hb4 H4 e4 s4 => q' σ4 Hb4 H4 (e2.trans e4) s4
          | ret fr d W =>
            rw [eb] at q'
            exact q'
          | exc xx W =>
            rw [eb] at q'
            exact fun σ' => ExcC.mono e2 (q' σ')
          | bad =>
            rw [eb] at q'
            exact False.elim q'
    · have : ds.drop i = [] := List.drop_eq_nil_of_le (by omega)
      rw [this] at q'
      exact .inl ⟨k1 (by omega), q' σ' Hb' H' (Same.refl _) s'⟩
end
end DL
namespace DL
open PySem PySem.Spec PyProof.Rows L2

/-! ### while, with fuel told at the entry -/
def goWhile (ft : EF) (body : SF) : Nat → SF
  | 0 => fun _ => .bad
  | n + 1 => fun c => (ft c).toS fun _ d c1 => match d with
    | .bl false => .nx c1
    | .bl true => match body c1 with
      | .nx c2 => goWhile ft body n c2
      | .cnt c2 => goWhile ft body n c2
      | .brk c2 => .nx c2
      | .ret fr d W => .ret fr d W
      | .exc x W => .exc x W
      | .bad => .bad
    | _ => .bad
def sWhile (fuel : Cfg → Nat) (ft : EF) (body : SF) : SF := fun c => goWhile ft body (fuel c) c
section
variable {X : Cx} {A : Am} {B : Bs} {E : XS} {Hb H Hb1 H1 : Hp} {σ : List (Option V)} {c c1 : Cfg} {fa fb fc : EF} {f g : SF} {De : Ends} {ga gb : AF}
theorem ds_while {t : Expr} {body : List Stmt} {pos : Pos} {fuel : Cfg → Nat} (hp : PassesOwn (model X.prog X.w) X.A X.env X.xe) (ht : DT X A B E t fa) (hb : DSs X A B E body f) : DS X A B E (.While t body [] pos) (sWhile fuel fa f) :=
  PS.imp (ps_while hp ht hb) fun D σ H ⟨Hb, c, s, q⟩ => by
    refine ⟨fun m σ' H' => ∃ (Hb' : Hp) (c' : Cfg), Sr A B Hb' H' σ' c' ∧ SPost A B E Hb' D (goWhile fa f m c'), ⟨fuel c, Hb, c, s, q⟩, ?_⟩
    rintro m σ' H' ⟨Hb', c', s', q'⟩
    cases m with
    | zero => exact False.elim q'
    | succ m =>
      refine rs_thenT (De := D) (K := fun b c1 => match b with
        | false => .nx c1
        | true => match f c1 with
          | .nx c2 => goWhile fa f m c2
          | .cnt c2 => goWhile fa f m c2
          | .brk c2 => .nx c2
          | .ret fr d W => .ret fr d W
          | .exc x W => .exc x W
          | .bad => .bad) s' ?_ fun b c1 Hb1 H1 s1 q1 => ?_
      · unfold goWhile at q'
        cases e : fa c' with
        | ok k d c1 =>
          rw [e] at q'
          cases d with
          | bl b => cases b <;> exact q'
          | _ => exact False.elim q'
        | exc x W => rw [e] at q'; exact q'
        | bad => rw [e] at q'; exact q'
      · cases b with
        | false => exact q1 σ' Hb1 H1 (Same.refl _) s1
        | true =>
          rw [if_pos rfl]
          refine ⟨fun σ2 H2 => ∃ (Hb2 : Hp) (c2 : Cfg), Sr A B Hb2 H2 σ2 c2 ∧ SPost A B E Hb2 D (goWhile fa f m c2), fun σ2 H2 h => ⟨m, Nat.lt_succ_self m, h⟩, Hb1, c1, s1, ?_⟩
          dsimp only at q1
          cases eb : f c1 with
          | nx c3 =>
            rw [eb] at q1
            exact fun σ4 Hb4 H4 e4 s4 => ⟨Hb4, c3, s4, q1.mono e4⟩
          | cnt c3 =>
            rw [eb] at q1
            exact fun σ4 Hb4 H4 e4 s4 => ⟨Hb4, c3, s4, q1.mono e4⟩
          | brk c3 =>
            rw [eb] at q1
            exact fun σ4 Hb4 H4 e4 s4 => q1 σ4 Hb4 H4 e4 s4
          | ret fr d W => rw [eb] at q1; exact q1
          | exc xx W => rw [eb] at q1; exact q1
          | bad => rw [eb] at q1; exact False.elim q1
theorem ds_brk {pos} (h : PS X (.Break pos) (fun D σ H => D.bk σ H)) : DS X A B E (.Break pos) sBrk := PS.imp h fun D σ H ⟨Hb, c, s, q⟩ => q σ Hb H (Same.refl _) s
theorem ds_cnt {pos} (h : PS X (.Continue pos) (fun D σ H => D.ct σ H)) : DS X A B E (.Continue pos) sCnt := PS.imp h fun D σ H ⟨Hb, c, s, q⟩ => q σ Hb H (Same.refl _) s
end

/-! ### what a def promises, by data -/
inductive FR where
  | ret (fr : Bool) (d : D) (W : Wd) | exc (x : XD) (W : Wd) | bad
abbrev FF := List D → Wd → FR
def FPost (A : Am) (B : Bs) (E : XK) (Q : VK) : FR → Prop
  | .ret fr d W' => ∀ (v : V) (Hb' H' : Hp), Fin A B Hb' H' W' → RepR A B Hb' H' fr d v → Q v H'
  | .exc x W' => ExcW A B E x W'
  | .bad => False
def spD (A : Am) (n : Nat) (F : FF) : Sp := fun vs H Q E => vs.length = n ∧ ∃ (Hb : Hp) (ds : List D) (W : Wd), HR A Hb H W ∧ RepL A Hb ds vs ∧ FPost A ⟨Hb, H, fun _ => False⟩ E Q (F ds W)
/-- what a callee lets out is taken, by our slots -/
def PassS (X : Cx) (E : XS) : Prop := ∀ (pins : List (Addr × Obj)) (σ : L2.St) (H : Hp) (s : Shared) (e : Value) (s' : Shared), Inv X pins σ H s → L2.CX X.prog X.w X.stack H s (E σ) e s' → X.xe e s'
theorem PassS.tk {X : Cx} {W : WX} (tk : Takes X W) : PassS X (fun σ cls d H => W cls d σ H) := fun pins σ H s e s' I c => passAt tk σ pins H s e s' I c
/-- a def called where X stands -/
structure Calls (X : Cx) (f : Addr) (fd : FuncData) (ps : List Str) (sp : Sp) : Prop where
  len : ∀ vs H Q E, sp vs H Q E → vs.length = ps.length
  run : ∀ (s : Shared) (H : Hp) (args : Args) (us : List Value) (vs : List V) (Q : VK) (E : XK), Env0 X.prog X.w X.K X.mg X.base X.A X.stack s H → BindsTo s fd args (ps.zip us) → Vals vs us → sp vs H Q E →
    codeAny (model X.prog X.w) X.A (.call (.ref f) args) (CR (L2.CX X.prog X.w) X.stack X.prog X.w H s Q E) s
theorem Calls.of {X : Cx} {f : Addr} {fd : FuncData} {ps : List Str} {sp : Sp} {k : Nat} (F : FnOk X.prog X.w X.K X.mg X.base (L2.CX X.prog X.w) k f fd ps sp) (hr : Room k X.A) : Calls X f fd ps sp :=
  ⟨F.len, fun s H args us vs Q E e0 hb r h => F.run X.A X.stack s H args us vs Q E hr e0 hb r h⟩
/-- a def's promise where nothing is being shown (the model's guards are known) -/
structure FnG (P : Program) (w : World) (K : PySem.W.Frag) (mg : Str → Option Value) (base : Heap) (k : Nat) (f : Addr) (fd : FuncData) (ps : List Str) (sp : Sp) : Prop where
  len : ∀ vs H Q E, sp vs H Q E → vs.length = ps.length
  run : ∀ (A : Around) (outer : List Env) (s : Shared) (H : Hp) (args : Args) (us : List Value) (vs : List V) (Q : VK) (E : XK), Room k A → A.guards = some [] → Env0 P w K mg base A outer s H → BindsTo s fd args (ps.zip us) → Vals vs us → sp vs H Q E →
    codeAny (model P w) A (.call (.ref f) args) (CR (L2.CX P w) outer P w H s Q E) s
theorem Calls.ofG {X : Cx} {f : Addr} {fd : FuncData} {ps : List Str} {sp : Sp} {k : Nat} (F : FnG X.prog X.w X.K X.mg X.base k f fd ps sp) (hr : Room k X.A) (hg : X.A.guards = some []) : Calls X f fd ps sp :=
  ⟨F.len, fun s H args us vs Q E e0 hb r h => F.run X.A X.stack s H args us vs Q E hr hg e0 hb r h⟩
theorem FnG.of {P : Program} {w : World} {K : PySem.W.Frag} {mg : Str → Option Value} {base : Heap} {k : Nat} {f : Addr} {fd : FuncData} {ps : List Str} {sp : Sp} (F : FnOk P w K mg base (L2.CX P w) k f fd ps sp) : FnG P w K mg base k f fd ps sp :=
  ⟨F.len, fun A outer s H args us vs Q E hr _ e0 hb r h => F.run A outer s H args us vs Q E hr e0 hb r h⟩
section
variable {X : Cx} {A : Am} {B : Bs} {E : XS} {Hb H Hb1 H1 : Hp} {σ : List (Option V)} {c c1 : Cfg} {fa fb fc : EF} {f g : SF} {De : Ends} {ga gb : AF} {fn : Addr} {fd : FuncData} {ps : List Str} {sp : Sp}
/-- the called def has run -/
theorem call_end {pins : List (Addr × Obj)} {s : Shared} {Q : VK} (hx : PassS X E) (I : Inv X pins σ H s) : ∀ r s', CR (L2.CX X.prog X.w) X.stack X.prog X.w H s Q (E σ) r s' → (match r with
    | .ok (.ret u) => EP X pins σ Q u s'
    | .ok _ => False
    | .error e => X.xe e s') := fun r s' hq => by
  cases r with
  | error e => exact hx pins σ H s e s' I hq
  | ok fl =>
    cases fl with
    | ret u => exact I.after hq
    | next => exact hq.elim
    | brk => exact hq.elim
    | cont => exact hq.elim
theorem run_c {pins : List (Addr × Obj)} {s : Shared} {Q : VK} {us : List Value} {vs : List V} {args : Args} (F : Calls X fn fd ps sp) (hx : PassS X E) (I : Inv X pins σ H s) (hb : BindsTo s fd args (ps.zip us)) (r : Vals vs us) (h : sp vs H Q (E σ)) :
    wpAny (model X.prog X.w) X.A (call (.ref fn) args.pos args.kw) (EP X pins σ Q) X.xe s := by
  refine wpAny_call (codeAny_mono (F.run s H args us vs Q (E σ) I.env0 hb r h) fun r s' hq => ?_)
  have z := call_end hx I r s' hq
  cases r with
  | error e => exact z
  | ok fl =>
    cases fl with
    | ret u => exact z
    | next => exact z.elim
    | brk => exact z.elim
    | cont => exact z.elim
theorem pe_callC {x : Str} {p pos : Pos} {e : Expr} {es : List Expr} {t : TA} (F : Calls X fn fd ps sp) (hx : PassS X E) (hg : Gl X x) (hm : X.mg x = some (.ref fn)) (hk : PySem.W.keepIn X.K (.ref fn) = true) (hb : Binds X.K fd ps [])
    (ha : PA X (e :: es) t) (hdb : (x == ("__debug__" : Str)) = false := by decide) (he : starEach (e :: es) X.env = (false, eval e X.env) :: starEach es X.env := by rfl) (hpl : (backTo pos (starEach es X.env)).any (·.1) = false := by rfl) :
    PE X (.Call (.Name x p) (e :: es) [] pos) (fun σ H Q => t σ H fun vs H1 => sp vs H1 Q (E σ)) := by
  refine ⟨fun pins s σ H Q I h => ?_⟩
  refine wpAny_Call_Name_kw (ld_glob I hg hm ?_ hdb)
  refine PySem.W.callWith_K (h₀ := X.base) I.ok.mod.kin hk (thn (ha.run pos pins s σ H _ I h) fun us s1 ⟨vs, H1, I1, r, q⟩ => ⟨I1.kIn, ?_⟩) he hpl
  have hl : us.length = ps.length := by rw [← r.length]; exact F.len _ _ _ _ q
  have b := hb s1 us I1.kIn (by rw [List.append_nil]; exact hl)
  rw [List.append_nil] at b
  exact run_c (args := ⟨us, []⟩) F hx I1 b r q
theorem pe_callC0 {x : Str} {p pos : Pos} (F : Calls X fn fd ps sp) (hx : PassS X E) (hg : Gl X x) (hm : X.mg x = some (.ref fn)) (hk : PySem.W.keepIn X.K (.ref fn) = true) (hb : Binds X.K fd ps []) (hdb : (x == ("__debug__" : Str)) = false := by decide) :
    PE X (.Call (.Name x p) [] [] pos) (fun σ H Q => sp [] H Q (E σ)) := by
  refine ⟨fun pins s σ H Q I h => ?_⟩
  refine wpAny_Call_Name_kw (ld_glob I hg hm ?_ hdb)
  have hl : ([] : List Value).length = ps.length := F.len _ _ _ _ h
  have b := hb s [] I.kIn (by rw [List.append_nil]; exact hl)
  rw [List.append_nil] at b
  exact PySem.W.callWith_K0 I.kIn hk (run_c (us := []) (args := ⟨[], []⟩) F hx I b .nil h)
/-- the values in the parameters' order -/
def permL {α : Type} (π : List Nat) (zs : List α) : List α := π.filterMap fun i => zs[i]?
theorem permL_vals {vs : List V} {us : List Value} (h : Vals vs us) : ∀ π : List Nat, Vals (permL π vs) (permL π us)
  | [] => .nil
  | i :: π => by
    unfold permL
    rw [List.filterMap_cons, List.filterMap_cons]
    cases e : vs[i]? with
    | none =>
      rw [Vals.none_of h e]
      exact permL_vals h π
    | some v =>
      obtain ⟨u, e1, r⟩ := Vals.get h e
      rw [e1]
      exact .cons r (permL_vals h π)
theorem permL_rep {ds : List D} {vs : List V} (h : RepL A Hb ds vs) : ∀ π : List Nat, RepL A Hb (permL π ds) (permL π vs)
  | [] => RepL.nil
  | i :: π => by
    unfold permL
    rw [List.filterMap_cons, List.filterMap_cons]
    cases e : ds[i]? with
    | none =>
      have : vs[i]? = none := List.getElem?_eq_none_iff.mpr (by rw [← h.len]; exact List.getElem?_eq_none_iff.mp e)
      rw [this]
      exact permL_rep h π
    | some d =>
      obtain ⟨v, e1, r⟩ := h.get e
      rw [e1]
      exact RepL.cons r (permL_rep h π)
/-- f(e, .., k = e, ..): n1 places, n2 names ks; π: where each parameter's value stands among them -/
structure KwB (fd : FuncData) (ps ks : List Str) (n1 n2 : Nat) (π : List Nat) : Prop where
  to : ∀ us ws : List Value, us.length = n1 → ws.length = n2 → bindArgs fd ⟨us, ks.zip ws⟩ = pure (ps.zip (permL π (us ++ ws)))
theorem pe_callCK {x : Str} {p pos : Pos} {e : Expr} {es : List Expr} {kws : List Keyword} {ks : List Str} {t tk : TA} {n1 n2 : Nat} {π : List Nat} (F : Calls X fn fd ps sp) (hx : PassS X E) (hg : Gl X x) (hm : X.mg x = some (.ref fn)) (hk : PySem.W.keepIn X.K (.ref fn) = true)
    (hb : KwB fd ps ks n1 n2 π) (ha : PA X (e :: es) t) (hkw : PK X kws tk) (hall : (backToKw pos (keywordEach kws X.env)).all (·.1.isSome) = true := by rfl) (hks : (backToKw pos (keywordEach kws X.env)).filterMap (·.1) = ks := by rfl)
    (hdb : (x == ("__debug__" : Str)) = false := by decide) (he : starEach (e :: es) X.env = (false, eval e X.env) :: starEach es X.env := by rfl)
    (hpl : ((backTo pos (starEach (e :: es) X.env)).any (·.1) || (backToKw pos (keywordEach kws X.env)).any (·.1.isNone)) = false := by rfl) :
    PE X (.Call (.Name x p) (e :: es) kws pos) (fun σ H Q => t σ H fun vs H1 => tk σ H1 fun zs H2 => vs.length = n1 ∧ zs.length = n2 ∧ sp (permL π (vs ++ zs)) H2 Q (E σ)) := by
  refine ⟨fun pins s σ H Q I h => ?_⟩
  refine wpAny_Call_Name_kw (ld_glob I hg hm ?_ hdb)
  refine PySem.W.callWith_KW (h₀ := X.base) I.ok.mod.kin hk hall (thn (ha.run pos pins s σ H _ I h) fun us s1 ⟨vs, H1, I1, r, q⟩ => ?_) hpl he
  refine thn (hkw.run pos pins s1 σ H1 _ I1 q) fun ws s2 ⟨zs, H2, I2, rz, l1, l2, q2⟩ => ⟨I2.kIn, ?_⟩
  rw [hks]
  exact run_c (args := ⟨us, ks.zip ws⟩) F hx I2 (.of_eq (hb.to us ws (by rw [← r.length]; exact l1) (by rw [← rz.length]; exact l2))) (permL_vals (r.append rz) π) q2
theorem pe_callCK0 {x : Str} {p pos : Pos} {kws : List Keyword} {ks : List Str} {tk : TA} {n2 : Nat} {π : List Nat} (F : Calls X fn fd ps sp) (hx : PassS X E) (hg : Gl X x) (hm : X.mg x = some (.ref fn)) (hk : PySem.W.keepIn X.K (.ref fn) = true)
    (hb : KwB fd ps ks 0 n2 π) (hkw : PK X kws tk) (hall : (backToKw pos (keywordEach kws X.env)).all (·.1.isSome) = true := by rfl) (hks : (backToKw pos (keywordEach kws X.env)).filterMap (·.1) = ks := by rfl)
    (hdb : (x == ("__debug__" : Str)) = false := by decide)
    (hpl : ((backTo pos (starEach [] X.env)).any (·.1) || (backToKw pos (keywordEach kws X.env)).any (·.1.isNone)) = false := by rfl) :
    PE X (.Call (.Name x p) [] kws pos) (fun σ H Q => tk σ H fun zs H2 => zs.length = n2 ∧ sp (permL π zs) H2 Q (E σ)) := by
  refine ⟨fun pins s σ H Q I h => ?_⟩
  refine wpAny_Call_Name_kw (ld_glob I hg hm ?_ hdb)
  refine PySem.W.callWith_KW0 (h₀ := X.base) I.ok.mod.kin hk hall (thn (hkw.run pos pins s σ H _ I h) fun ws s2 ⟨zs, H2, I2, rz, l2, q2⟩ => ⟨I2.kIn, ?_⟩) hpl
  rw [hks]
  exact run_c (args := ⟨[], ks.zip ws⟩) F hx I2 (.of_eq (hb.to [] ws rfl (by rw [← rz.length]; exact l2))) (permL_vals rz π) q2
/-! ### the state behind a call -/
theorem Sr.called {Hb' H' : Hp} {W' : Wd} (s : Sr A B Hb H σ c) (f : Fin A ⟨Hb, H, fun _ => False⟩ Hb' H' W') : Sr A B Hb' H' σ ⟨c.r, W'⟩ := by
  refine ⟨⟨f.hr, s.fin.b0.trans f.b0, s.fin.kp.trans f.kp, fun p o e1 e2 n0 => ?_⟩, s.len, fun i d h => ?_, fun i d h => ?_, s.sep, fun q h => ?_⟩
  · obtain ⟨o', e3, n3⟩ := s.fin.kp.it p o e2 n0
    exact f.nb p o' (s.fin.nb p o e1 e2 n0) e3 n3
  · obtain ⟨v, h1, h2⟩ := s.sh i d h
    exact ⟨v, h1, Rep.mono f.b0 _ _ h2⟩
  · obtain ⟨a, o, h1, h2, h3, h4, h5, h6⟩ := s.ow i d h
    exact ⟨a, o, h1, f.kp.eq a o h2 h5 h3.notb, h3.mono f.b0, f.nb a o h4 h2 h3.notb, h5, h6⟩
  · obtain ⟨⟨o, h1, n1⟩, h2, h3⟩ := s.pr q h
    exact ⟨f.kp.it q o h1 n1, f.nb q o h2 h1 n1, h3⟩
theorem RepR.toK {Hb' H' : Hp} {W' : Wd} {fr : Bool} {d : D} {v : V} (s : Sr A B Hb H σ c) (f : Fin A ⟨Hb, H, fun _ => False⟩ Hb' H' W') (r : RepR A ⟨Hb, H, fun _ => False⟩ Hb' H' fr d v) : RepK A B Hb' H' σ ⟨c.r, W'⟩ (if fr then .fr else .st) d v := by
  cases fr with
  | false => exact r
  | true =>
    obtain ⟨a, o, h1, h2, h3, h4, h5, h6, _⟩ := r
    have hn : NtN H a := h6
    have np : ¬ B.pr a := fun z => by
      obtain ⟨⟨o, h1, n1⟩, _⟩ := s.pr a z
      exact hn o h1 n1
    have h0 : NtN B.h0 a := fun u e n => by
      obtain ⟨u', e', n'⟩ := s.fin.kp.it a u e n
      exact hn u' e' n'
    refine ⟨a, ⟨o, h1, h2, h3, h4, h5, h0, np⟩, fun i d' hi z => ?_⟩
    obtain ⟨b, u, g1, g2, g3, _⟩ := s.ow i d' hi
    rw [g1] at z
    cases z
    exact hn u g2 g3.notb
def FR.toE (c : Cfg) : FR → ER
  | .ret fr d W => .ok (if fr then .fr else .st) d ⟨c.r, W⟩
  | .exc x W => .exc x ⟨c.r, W⟩
  | .bad => .bad
@[simp] theorem toE_ret {c fr d W} : FR.toE c (.ret fr d W) = .ok (if fr then .fr else .st) d ⟨c.r, W⟩ := rfl
@[simp] theorem toE_exc {c x W} : FR.toE c (.exc x W) = .exc x ⟨c.r, W⟩ := rfl
@[simp] theorem toE_bad {c} : FR.toE c .bad = .bad := rfl
/-- a def called with data -/
def evCall (n : Nat) (F : FF) (g : AF) : EF := fun c => (g c).bind fun ds c1 => if ds.length = n then (F ds c1.W).toE c1 else .bad
theorem sp_of {n : Nat} {F : FF} {ds : List D} {vs : List V} {Q : VK} (s : Sr A B Hb H σ c) (r : RepL A Hb ds vs) (q : EPost A B E Hb H σ Q (if ds.length = n then (F ds c.W).toE c else .bad)) : spD A n F vs H Q (E σ) := by
  split at q
  · rename_i hl
    refine ⟨by rw [← r.len]; exact hl, Hb, ds, c.W, s.fin.hr, r, ?_⟩
    cases e : F ds c.W with
    | ret fr d W' =>
      rw [e] at q
      intro v Hb' H' f rr
      have s' := s.called f
      exact q v Hb' H' s' ⟨f.b0, f.kp⟩ (RepR.toK s f rr)
    | exc x W' =>
      rw [e] at q
      intro cls dd Hb' H' f ex
      exact q cls dd Hb' H' ⟨f.b0, f.kp⟩ (s.called f) ex
    | bad => rw [e] at q; exact q
  · exact False.elim q
theorem de_call {x : Str} {p pos : Pos} {e : Expr} {es : List Expr} {n : Nat} {F : FF} (G : Calls X fn fd ps (spD A n F)) (hx : PassS X E) (hg : Gl X x) (hm : X.mg x = some (.ref fn)) (hk : PySem.W.keepIn X.K (.ref fn) = true) (hb : Binds X.K fd ps [])
    (ha : DA X A B E (e :: es) ga) (hdb : (x == ("__debug__" : Str)) = false := by decide) (he : starEach (e :: es) X.env = (false, eval e X.env) :: starEach es X.env := by rfl) (hpl : (backTo pos (starEach es X.env)).any (·.1) = false := by rfl) : DE X A B E (.Call (.Name x p) (e :: es) [] pos) (evCall n F ga) :=
  PE.imp (pe_callC G hx hg hm hk hb ha hdb he hpl) fun σ H Q ⟨Hb, c, s, q⟩ => ra_then s q fun ds c1 vs Hb1 H1 _ s1 t1 k1 q1 => sp_of s1 k1 q1
theorem de_call0 {x : Str} {p pos : Pos} {n : Nat} {F : FF} (G : Calls X fn fd ps (spD A n F)) (hx : PassS X E) (hg : Gl X x) (hm : X.mg x = some (.ref fn)) (hk : PySem.W.keepIn X.K (.ref fn) = true) (hb : Binds X.K fd ps []) (hdb : (x == ("__debug__" : Str)) = false := by decide) : DE X A B E (.Call (.Name x p) [] [] pos) (evCall n F evNil) :=
  PE.imp (pe_callC0 G hx hg hm hk hb hdb) fun σ H Q ⟨Hb, c, s, q⟩ => sp_of s RepL.nil q
/-- .. with names: n1 places, n2 names -/
def evCallK (n n1 n2 : Nat) (π : List Nat) (F : FF) (g gk : AF) : EF := fun c => (g c).bind fun ds c1 => (gk c1).bind fun es c2 => if ds.length = n1 ∧ es.length = n2 then (if (permL π (ds ++ es)).length = n then (F (permL π (ds ++ es)) c2.W).toE c2 else .bad) else .bad
theorem de_callK {x : Str} {p pos : Pos} {e : Expr} {es : List Expr} {kws : List Keyword} {ks : List Str} {n n1 n2 : Nat} {π : List Nat} {F : FF} (G : Calls X fn fd ps (spD A n F)) (hx : PassS X E) (hg : Gl X x) (hm : X.mg x = some (.ref fn)) (hk : PySem.W.keepIn X.K (.ref fn) = true)
    (hb : KwB fd ps ks n1 n2 π) (ha : DA X A B E (e :: es) ga) (hkw : DK X A B E kws gb) (hall : (backToKw pos (keywordEach kws X.env)).all (·.1.isSome) = true := by rfl) (hks : (backToKw pos (keywordEach kws X.env)).filterMap (·.1) = ks := by rfl)
    (hdb : (x == ("__debug__" : Str)) = false := by decide) (he : starEach (e :: es) X.env = (false, eval e X.env) :: starEach es X.env := by rfl)
    (hpl : ((backTo pos (starEach (e :: es) X.env)).any (·.1) || (backToKw pos (keywordEach kws X.env)).any (·.1.isNone)) = false := by rfl) : DE X A B E (.Call (.Name x p) (e :: es) kws pos) (evCallK n n1 n2 π F ga gb) :=
  PE.imp (pe_callCK G hx hg hm hk hb ha hkw hall hks hdb he hpl) fun σ H Q ⟨Hb, c, s, q⟩ => by
    refine ra_then s q fun ds c1 vs Hb1 H1 _ s1 t1 k1 q1 => ?_
    refine ra_then s1 q1 fun es c2 zs Hb2 H2 _ s2 t2 k2 q2 => ?_
    by_cases hl : ds.length = n1 ∧ es.length = n2
    · rw [if_pos hl] at q2
      refine ⟨by rw [← k1.len]; exact hl.1, by rw [← k2.len]; exact hl.2, ?_⟩
      exact sp_of s2 (permL_rep ((RepL.mono t2.b _ _ k1).append k2) π) q2
    · rw [if_neg hl] at q2
      exact False.elim q2
theorem de_callK0 {x : Str} {p pos : Pos} {kws : List Keyword} {ks : List Str} {n n2 : Nat} {π : List Nat} {F : FF} (G : Calls X fn fd ps (spD A n F)) (hx : PassS X E) (hg : Gl X x) (hm : X.mg x = some (.ref fn)) (hk : PySem.W.keepIn X.K (.ref fn) = true)
    (hb : KwB fd ps ks 0 n2 π) (hkw : DK X A B E kws gb) (hall : (backToKw pos (keywordEach kws X.env)).all (·.1.isSome) = true := by rfl) (hks : (backToKw pos (keywordEach kws X.env)).filterMap (·.1) = ks := by rfl)
    (hdb : (x == ("__debug__" : Str)) = false := by decide)
    (hpl : ((backTo pos (starEach [] X.env)).any (·.1) || (backToKw pos (keywordEach kws X.env)).any (·.1.isNone)) = false := by rfl) : DE X A B E (.Call (.Name x p) [] kws pos) (evCallK n 0 n2 π F evNil gb) :=
  PE.imp (pe_callCK0 G hx hg hm hk hb hkw hall hks hdb hpl) fun σ H Q ⟨Hb, c, s, q⟩ => by
    refine ra_then (K := fun es c2 => if ([] : List D).length = 0 ∧ es.length = n2 then (if (permL π ([] ++ es)).length = n then (F (permL π ([] ++ es)) c2.W).toE c2 else .bad) else .bad) s q fun es c2 zs Hb2 H2 _ s2 t2 k2 q2 => ?_
    by_cases hl : ([] : List D).length = 0 ∧ es.length = n2
    · rw [if_pos hl] at q2
      refine ⟨by rw [← k2.len]; exact hl.2, ?_⟩
      exact sp_of s2 (permL_rep k2 π) q2
    · rw [if_neg hl] at q2
      exact False.elim q2
end
/-! ### a def by its body -/
def startC (m : Nat) (ds : List D) (W : Wd) : Cfg := ⟨ds.map (fun d => some (false, d)) ++ List.replicate (m - ds.length) none, W⟩
/-- what a body makes of its arguments -/
def runD (m : Nat) (f : SF) : FF := fun ds W => match f (startC m ds W) with
  | .nx c => .ret false .non c.W
  | .ret fr d W => .ret fr d W
  | .exc x c => .exc x c.W
  | _ => .bad
theorem sr_start {A : Am} {Hb H : Hp} {W : Wd} {N : List Str} {ds : List D} {vs : List V} (h : HR A Hb H W) (r : RepL A Hb ds vs) : Sr A ⟨Hb, H, fun _ => False⟩ Hb H (L2.start N vs) (startC N.length ds W) := by
  have hl := r.len
  refine ⟨⟨h, Same.refl _, Kept.refl _, fun p o e _ _ => e⟩, ?_, fun i d e => ?_, fun i d e => ?_, fun i j di dj a e _ _ _ => ?_, fun p z => z.elim⟩
  · unfold startC L2.start
    simp [hl]
  · unfold startC at e
    unfold L2.start
    by_cases hi : i < ds.length
    · rw [List.getElem?_append_left (by simpa using hi), List.getElem?_map] at e
      cases q : ds[i]? with
      | none => rw [q] at e; cases e
      | some d' =>
        rw [q] at e
        cases e
        obtain ⟨v, h1, h2⟩ := r.get q
        refine ⟨v, ?_, h2⟩
        rw [List.getElem?_append_left (by simp; omega), List.getElem?_map, h1]
        rfl
    · rw [List.getElem?_append_right (by simpa using hi)] at e
      rw [List.getElem?_replicate] at e
      split at e <;> cases e
  · exfalso
    unfold startC at e
    by_cases hi : i < ds.length
    · rw [List.getElem?_append_left (by simpa using hi), List.getElem?_map] at e
      cases q : ds[i]? with
      | none => rw [q] at e; cases e
      | some d' => rw [q] at e; cases e
    · rw [List.getElem?_append_right (by simpa using hi)] at e
      rw [List.getElem?_replicate] at e
      split at e <;> cases e
  · exfalso
    unfold startC at e
    by_cases hi : i < ds.length
    · rw [List.getElem?_append_left (by simpa using hi), List.getElem?_map] at e
      cases q : ds[i]? with
      | none => rw [q] at e; cases e
      | some d' => rw [q] at e; cases e
    · rw [List.getElem?_append_right (by simpa using hi)] at e
      rw [List.getElem?_replicate] at e
      split at e <;> cases e
theorem rd_start {A : Am} {E : XK} {Hb H : Hp} {W : Wd} {N : List Str} {ds : List D} {vs : List V} {Q : VK} {f : SF} (h : HR A Hb H W) (r : RepL A Hb ds vs) (q : FPost A ⟨Hb, H, fun _ => False⟩ E Q (runD N.length f ds W)) :
    rdS A ⟨Hb, H, fun _ => False⟩ (fun _ => E) f { nx := fun _ H' => Q .non H', rt := Q } (L2.start N vs) H := by
  refine ⟨Hb, _, sr_start (N := N) h r, ?_⟩
  unfold runD at q
  cases e : f (startC N.length ds W) with
  | nx c =>
    rw [e] at q
    exact fun σ' Hb' H' _ s => q .non Hb' H' s.fin ((rep_non (A := A) (H := Hb')).mpr rfl)
  | ret fr d W' => rw [e] at q; exact q
  | exc x c' => rw [e] at q; exact fun σ' cls dd Hb' H' _ s ex => q cls dd Hb' H' s.fin ex
  | brk c => rw [e] at q; exact False.elim q
  | cnt c => rw [e] at q; exact False.elim q
  | bad => rw [e] at q; exact False.elim q
section
variable {P : Program} {w : World} {K : PySem.W.Frag} {mg : Str → Option Value} {base : Heap} {A : Am}
/-- a def whose body is derived, whatever is around -/
theorem def_ok {x qual : Str} {st : Stmt} {f : Addr} {fd : FuncData} {N ps : List Str} {k n : Nat} {s : SF} (F : Fun K x qual st f fd) (S : FnScope N ps (defScope st)) (hn : ps.length = n)
    (hbody : ∀ (cdv : Value) (Ar : Around) (outer : List Env) (sh : Shared) (H Hb : Hp) (E : XK), Room k (Ar.deeper (envOfC qual (defScope st) sh.heap.objs.size f cdv)) →
      DSs (cxOf (L2.CX P w) P w K mg base N qual (defScope st) f cdv Ar outer sh H E) A ⟨Hb, H, fun _ => False⟩ (fun _ => E) (defBody st) s) : FnOk P w K mg base (L2.CX P w) (k + 1) f fd ps (spD A n (runD N.length s)) :=
  F.okX S (fun vs H Q E h => by rw [hn]; exact h.1) fun cdv Ar outer sh H vs Q E hr h => by
    obtain ⟨hl, Hb, ds, W, h1, h2, h3⟩ := h
    exact ⟨_, hbody cdv Ar outer sh H Hb E hr, rd_start h1 h2 h3⟩
/-- .. where nothing is being shown -/
theorem def_okG {x qual : Str} {st : Stmt} {f : Addr} {fd : FuncData} {N ps : List Str} {k n : Nat} {s : SF} (F : Fun K x qual st f fd) (S : FnScope N ps (defScope st)) (hn : ps.length = n)
    (hbody : ∀ (cdv : Value) (Ar : Around) (outer : List Env) (sh : Shared) (H Hb : Hp) (E : XK), Room k (Ar.deeper (envOfC qual (defScope st) sh.heap.objs.size f cdv)) → Ar.guards = some [] →
      DSs (cxOf (L2.CX P w) P w K mg base N qual (defScope st) f cdv Ar outer sh H E) A ⟨Hb, H, fun _ => False⟩ (fun _ => E) (defBody st) s) : FnG P w K mg base (k + 1) f fd ps (spD A n (runD N.length s)) := by
  refine ⟨fun vs H Q E h => by rw [hn]; exact h.1, fun Ar outer sh H args us vs Q E hr hg e0 hb r h => ?_⟩
  obtain ⟨oc, od, kV, doc, pm, an, cdv, ct, osl, rfl, lk, hcd⟩ := F.ex
  obtain ⟨hl, Hb, ds, W, h1, h2, h3⟩ := h
  exact LamX.run_ofS lk hcd S hr e0 hb r (by rw [hn]; exact hl) fun hr' => ⟨_, hbody cdv Ar outer sh H Hb E hr' hg, rd_start h1 h2 h3⟩
/-- the function told otherwise -/
theorem spD_congr {n : Nat} {F G : FF} (h : ∀ ds W, ds.length = n → F ds W = G ds W) : ∀ vs H Q E, spD A n G vs H Q E → spD A n F vs H Q E := fun vs H Q E ⟨hl, Hb, ds, W, h1, h2, h3⟩ => ⟨hl, Hb, ds, W, h1, h2, by rw [h ds W (by rw [h2.len]; exact hl)]; exact h3⟩
end
end DL
namespace DL
open PySem PySem.Spec PyProof.Rows L2

/-! ### list comprehensions -/
def wipeR (r : List (Option (Bool × D))) : List Nat → List (Option (Bool × D))
  | [] => r
  | v :: vs => (wipeR r vs).set v none
def Cfg.wipe (c : Cfg) (vs : List Nat) : Cfg := { c with r := wipeR c.r vs }
def shOf : Option (Bool × D) → Option (Bool × D)
  | some (false, d) => some (false, d)
  | _ => none
theorem shOf_some {a : Option (Bool × D)} {u : Bool × D} (h : shOf a = some u) : a = some u ∧ u.1 = false := by
  unfold shOf at h
  split at h
  · cases h; exact ⟨rfl, rfl⟩
  · cases h
def mrgFrom (vs : List Nat) : Nat → List (Option (Bool × D)) → List (Option (Bool × D)) → List (Option (Bool × D))
  | k, a :: r0, b :: r1 => (if vs.contains k then shOf a else b) :: mrgFrom vs (k + 1) r0 r1
  | _, _, _ => []
def Cfg.mrg (vs : List Nat) (c0 c1 : Cfg) : Cfg := ⟨mrgFrom vs 0 c0.r c1.r, c1.W⟩
inductive LR where
  | ok (ds : List D) (c : Cfg) | bad
def goLc (tgt : D → Cfg → Option Cfg) (vs : List Nat) (ft fe : EF) : List D → List D → Cfg → LR
  | [], acc, c => .ok acc c
  | d :: ds, acc, c => match tgt d (c.wipe vs) with
    | none => .bad
    | some c1 => match ft c1 with
      | .ok _ (.bl false) c2 => goLc tgt vs ft fe ds acc (Cfg.mrg vs c c2)
      | .ok _ (.bl true) c2 => match fe c2 with
        | .ok .bo _ _ => .bad
        | .ok _ d' c3 => if acc.length < big then goLc tgt vs ft fe ds (acc ++ [d']) (Cfg.mrg vs c c3) else .bad
        | _ => .bad
      | _ => .bad
def LR.toE : LR → ER
  | .ok acc c => .ok .fr (.lst acc) c
  | .bad => .bad
def evLc (it : AF) (tgt : D → Cfg → Option Cfg) (vs : List Nat) (ft fe : EF) : EF := fun c => match it c with
  | .ok ds c1 => (goLc tgt vs ft fe ds [] c1).toE
  | .exc x W => .exc x W
  | .bad => .bad
theorem wipe_len (σ : List (Option V)) : ∀ vs : List Nat, (wipe σ vs).length = σ.length
  | [] => rfl
  | v :: vs => by
    show ((wipe σ vs).set v none).length = _
    rw [List.length_set, wipe_len σ vs]
theorem wipe_out {σ : List (Option V)} {i : Nat} : ∀ {vs : List Nat}, i ∉ vs → (wipe σ vs)[i]? = σ[i]?
  | [], _ => rfl
  | v :: vs, h => by
    show ((wipe σ vs).set v none)[i]? = _
    rw [List.getElem?_set_ne (fun z => h (by rw [z]; exact List.mem_cons_self))]
    exact wipe_out fun z => h (List.mem_cons_of_mem _ z)
theorem wipe_in {σ : List (Option V)} {i : Nat} : ∀ {vs : List Nat}, i ∈ vs → i < σ.length → (wipe σ vs)[i]? = some none
  | [], h, _ => absurd h List.not_mem_nil
  | v :: vs, h, hl => by
    show ((wipe σ vs).set v none)[i]? = _
    by_cases e : v = i
    · subst e
      exact List.getElem?_set_self (by rw [wipe_len]; exact hl)
    · rw [List.getElem?_set_ne e]
      rcases List.mem_cons.mp h with z | z
      · exact absurd z.symm e
      · exact wipe_in z hl
theorem wipeR_len (r : List (Option (Bool × D))) : ∀ vs : List Nat, (wipeR r vs).length = r.length
  | [] => rfl
  | v :: vs => by
    show ((wipeR r vs).set v none).length = _
    rw [List.length_set, wipeR_len r vs]
theorem wipeR_some {r : List (Option (Bool × D))} {i : Nat} {u : Bool × D} : ∀ {vs : List Nat}, (wipeR r vs)[i]? = some (some u) → r[i]? = some (some u) ∧ i ∉ vs
  | [], h => ⟨h, List.not_mem_nil⟩
  | v :: vs, h => by
    replace h : ((wipeR r vs).set v none)[i]? = some (some u) := h
    by_cases e : v = i
    · subst e
      have hl : v < (wipeR r vs).length := by
        cases Nat.lt_or_ge v (wipeR r vs).length with
        | inl q => exact q
        | inr q =>
          rw [List.getElem?_eq_none (by simpa using q)] at h
          cases h
      rw [List.getElem?_set_self hl] at h
      cases h
    · rw [List.getElem?_set_ne e] at h
      obtain ⟨h1, h2⟩ := wipeR_some h
      exact ⟨h1, fun z => by
        rcases List.mem_cons.mp z with z | z
        · exact e z.symm
        · exact h2 z⟩
theorem mrg_len (vs : List Nat) : ∀ (k : Nat) (r0 r1 : List (Option (Bool × D))), r0.length = r1.length → (mrgFrom vs k r0 r1).length = r1.length
  | k, [], [], _ => rfl
  | k, a :: r0, b :: r1, h => by
    show (mrgFrom vs (k + 1) r0 r1).length + 1 = r1.length + 1
    rw [mrg_len vs (k + 1) r0 r1 (by simpa using h)]
  | k, [], b :: r1, h => by simp at h
  | k, a :: r0, [], h => by simp at h
theorem mrg_get {vs : List Nat} {u : Bool × D} : ∀ {k : Nat} {r0 r1 : List (Option (Bool × D))} {i : Nat}, (mrgFrom vs k r0 r1)[i]? = some (some u) → (k + i ∉ vs ∧ r1[i]? = some (some u)) ∨ (k + i ∈ vs ∧ r0[i]? = some (some u) ∧ u.1 = false)
  | k, [], r1, i, h => by unfold mrgFrom at h; simp at h
  | k, a :: r0, [], i, h => by unfold mrgFrom at h; simp at h
  | k, a :: r0, b :: r1, 0, h => by
    replace h : some (if vs.contains k then shOf a else b) = some (some u) := h
    by_cases hk : vs.contains k = true
    · rw [if_pos hk] at h
      obtain ⟨e1, e2⟩ := shOf_some (Option.some.inj h)
      exact .inr ⟨by simpa using hk, by rw [e1]; rfl, e2⟩
    · rw [if_neg hk] at h
      exact .inl ⟨by simpa using hk, h⟩
  | k, a :: r0, b :: r1, i + 1, h => by
    replace h : (mrgFrom vs (k + 1) r0 r1)[i]? = some (some u) := h
    rcases mrg_get h with ⟨h1, h2⟩ | ⟨h1, h2, h3⟩
    · exact .inl ⟨by rw [show k + (i + 1) = k + 1 + i by omega]; exact h1, h2⟩
    · exact .inr ⟨by rw [show k + (i + 1) = k + 1 + i by omega]; exact h1, h2, h3⟩
def Bs.prot (B : Bs) (P : Addr) : Bs := { B with pr := fun p => B.pr p ∨ p = P }
section
variable {X : Cx} {A : Am} {B : Bs} {E : XS} {Hb H Hb1 H1 : Hp} {σ : List (Option V)} {c c1 : Cfg} {fa fb fc ft fe : EF} {f g : SF} {De : Ends} {ga gb : AF}
theorem Sr.wiped (vs : List Nat) (s : Sr A B Hb H σ c) : Sr A B Hb H (wipe σ vs) (c.wipe vs) := by
  refine ⟨s.fin, by show (wipeR c.r vs).length = _; rw [wipeR_len, wipe_len, s.len], fun i d h => ?_, fun i d h => ?_, fun i j di dj a hi hj e1 e2 => ?_, fun p h => ?_⟩
  · obtain ⟨h1, h2⟩ := wipeR_some h
    obtain ⟨v, g1, g2⟩ := s.sh i d h1
    exact ⟨v, by rw [wipe_out h2]; exact g1, g2⟩
  · obtain ⟨h1, h2⟩ := wipeR_some h
    obtain ⟨a, o, g1, g2⟩ := s.ow i d h1
    exact ⟨a, o, by rw [wipe_out h2]; exact g1, g2⟩
  · obtain ⟨h1, h2⟩ := wipeR_some hi
    obtain ⟨h3, h4⟩ := wipeR_some hj
    rw [wipe_out h2] at e1
    rw [wipe_out h4] at e2
    exact s.sep i j di dj a h1 h3 e1 e2
  · obtain ⟨g1, g2, g3⟩ := s.pr p h
    refine ⟨g1, g2, fun i d hi z => ?_⟩
    obtain ⟨h1, h2⟩ := wipeR_some hi
    rw [wipe_out h2] at z
    exact g3 i d h1 z
/-- out of the block again -/
theorem Sr.back {vs : List Nat} {σ2 : List (Option V)} {c2 : Cfg} (s : Sr A B Hb H σ c) (e : Same Hb Hb1) (s2 : Sr A B Hb1 H1 σ2 c2) (k : ∀ i : Nat, i ∉ vs → σ2[i]? = σ[i]?) (hl : σ2.length = σ.length) : Sr A B Hb1 H1 σ (Cfg.mrg vs c c2) := by
  have l2 : c.r.length = c2.r.length := by rw [s.len, s2.len, hl]
  refine ⟨s2.fin, by show (mrgFrom vs 0 c.r c2.r).length = _; rw [mrg_len vs 0 _ _ l2, s2.len, hl], fun i d h => ?_, fun i d h => ?_, fun i j di dj a hi hj e1 e2 => ?_, fun p h => ?_⟩
  · rcases mrg_get h with ⟨h1, h2⟩ | ⟨h1, h2, _⟩
    · rw [Nat.zero_add] at h1
      obtain ⟨v, g1, g2⟩ := s2.sh i d h2
      exact ⟨v, by rw [← k i h1]; exact g1, g2⟩
    · obtain ⟨v, g1, g2⟩ := s.sh i d h2
      exact ⟨v, g1, Rep.mono e _ _ g2⟩
  · rcases mrg_get h with ⟨h1, h2⟩ | ⟨h1, h2, h3⟩
    · rw [Nat.zero_add] at h1
      obtain ⟨a, o, g1, g2⟩ := s2.ow i d h2
      exact ⟨a, o, by rw [← k i h1]; exact g1, g2⟩
    · cases h3
  · rcases mrg_get hi with ⟨h1, h2⟩ | ⟨h1, h2, h3⟩
    · rcases mrg_get hj with ⟨h4, h5⟩ | ⟨h4, h5, h6⟩
      · rw [Nat.zero_add] at h1 h4
        rw [← k i h1] at e1
        rw [← k j h4] at e2
        exact s2.sep i j di dj a h2 h5 e1 e2
      · cases h6
    · cases h3
  · obtain ⟨g1, g2, g3⟩ := s2.pr p h
    refine ⟨g1, g2, fun i d hi z => ?_⟩
    rcases mrg_get hi with ⟨h1, h2⟩ | ⟨h1, h2, h3⟩
    · rw [Nat.zero_add] at h1
      rw [← k i h1] at z
      exact g3 i d h2 z
    · cases h3
/-- the list that a comprehension makes, grown -/
theorem Sr.grow {P : Addr} {xs ys : List V} (s : Sr A (B.prot P) Hb H σ c) (hP : H P = some (.lst xs)) (hn : ¬ A.dl P) (h0 : NtN B.h0 P) : Sr A (B.prot P) Hb (upd H P (.lst ys)) σ c := by
  obtain ⟨_, hb, no⟩ := s.pr P (.inr rfl)
  refine ⟨⟨⟨fun p u e => ?_, s.fin.hr.notb, fun w e => ?_, tabs_upd s.fin.hr.tabs hP⟩, s.fin.b0, ⟨fun p u e n0 => ?_, fun p u e n t => ?_⟩, s.fin.nb⟩, s.len, s.sh, fun i d h => ?_, s.sep, fun p h => ?_⟩
  · rw [upd_ne (ne_of_none e hb)]
    exact s.fin.hr.same p u e
  · obtain ⟨w1, w2, w3, w4, w5⟩ := s.fin.hr.w w e
    have n1 : w.1 ≠ P := fun z => hn ⟨w, e, .inl z.symm⟩
    have n2 : w.2 ≠ P := fun z => hn ⟨w, e, .inr z.symm⟩
    exact ⟨by rw [upd_ne n1]; exact w1, by rw [upd_ne n2]; exact w2, w3, w4, w5⟩
  · by_cases hp : p = P
    · subst hp; exact ⟨_, upd_same, fun _ z => by cases z⟩
    · rw [upd_ne hp]; exact s.fin.kp.it p u e n0
  · have : p ≠ P := h0.ne e t
    rw [upd_ne this]
    exact s.fin.kp.eq p u e n t
  · obtain ⟨a, o, g1, g2, g3⟩ := s.ow i d h
    have : a ≠ P := fun z => no i d h (by rw [g1, z])
    exact ⟨a, o, g1, by rw [upd_ne this]; exact g2, g3⟩
  · obtain ⟨⟨u, g1, g0⟩, g2, g3⟩ := s.pr p h
    by_cases hp : p = P
    · subst hp; exact ⟨⟨_, upd_same, fun _ z => by cases z⟩, g2, g3⟩
    · exact ⟨⟨u, by rw [upd_ne hp]; exact g1, g0⟩, g2, g3⟩
theorem Sr.prot {P : Addr} {xs : List V} (s : Sr A B Hb H σ c) (hP : H P = none) : Sr A (B.prot P) Hb (upd H P (.lst xs)) σ c := by
  have s1 := s.new (o := .lst xs) hP
  refine ⟨⟨s1.fin.hr, s1.fin.b0, s1.fin.kp, s1.fin.nb⟩, s1.len, s1.sh, s1.ow, s1.sep, fun p h => ?_⟩
  rcases h with h | h
  · exact s1.pr p h
  · subst h
    refine ⟨⟨_, upd_same, fun _ z => by cases z⟩, s.fin.hr.freshB hP, fun i d hi z => ?_⟩
    obtain ⟨a, o, g1, g2, _⟩ := s.ow i d hi
    rw [g1] at z
    cases z
    rw [hP] at g2
    cases g2
theorem Sr.unprot {P : Addr} (s : Sr A (B.prot P) Hb H σ c) : Sr A B Hb H σ c := ⟨⟨s.fin.hr, s.fin.b0, s.fin.kp, s.fin.nb⟩, s.len, s.sh, s.ow, s.sep, fun p h => s.pr p (.inl h)⟩
theorem Kept.updN {A : Am} {H H' : Hp} {p : Addr} {o : HO} (k : Kept A H H') (h : H p = none) : Kept A H (upd H' p o) := ⟨fun q u e n0 => by
    rw [upd_ne (ne_of_none e h)]
    exact k.it q u e n0, fun q u e n t => by
    rw [upd_ne (ne_of_none e h)]
    exact k.eq q u e n t⟩
/-- nothing is let out -/
def E0S : XS := fun _ => E0
/-- the readings within a block: from any base -/
def rdEx (A : Am) (f : EF) : TE := fun σ H Q => ∃ B, rdE A B E0S f σ H Q
def rdTx (A : Am) (f : EF) : TT := fun σ H Q => ∃ B, rdT A B E0S f σ H Q
theorem pex {e : Expr} (h : ∀ B, DE X A B E0S e fe) : PE X e (rdEx A fe) := ⟨fun pins s σ H Q I ⟨B, q⟩ => (h B).run pins s σ H Q I q⟩
theorem ptsx {ifs : List Expr} (h : ∀ B, PTs X ifs (rdT A B E0S ft)) : PTs X ifs (rdTx A ft) := ⟨fun pins s σ H Q I ⟨B, q⟩ => (h B).run pins s σ H Q I q⟩
theorem PTs.imp {ifs : List Expr} {t t' : TT} (h : PTs X ifs t) (i : ∀ σ H Q, t' σ H Q → t σ H Q) : PTs X ifs t' := ⟨fun pins s σ H Q I q => h.run pins s σ H Q I (i σ H Q q)⟩
theorem dts_nil : PTs X [] (rdT A B E (evC (.bl true))) := PTs.imp pts_nil fun σ H Q ⟨Hb, c, s, q⟩ => by
  obtain ⟨b, e, g⟩ := q
  cases e
  exact g Hb H s .refl
theorem dts_one {e : Expr} (h : DT X A B E e ft) : PTs X [e] (rdT A B E ft) := pts_one h
theorem rd_lc {iter tg : Expr} {gt : TG} {tgt : D → Cfg → Option Cfg} {js vs : List Nat} {Q : VK} (hs : TgS A gt js tgt) (hj : ∀ j ∈ js, j ∈ vs) (s : Sr A B Hb H σ c) (q : EPost A B E Hb H σ Q (evLc ga tgt vs ft fe c)) :
    tLc (rdI A B E ga) gt (rdTx A ft) (rdEx A fe) vs σ H Q := by
  refine ⟨Hb, c, s, ?_⟩
  unfold evLc at q
  cases ei : ga c with
  | exc x W => rw [ei] at q; exact q
  | bad => rw [ei] at q; exact False.elim q
  | ok ds c1 =>
    rw [ei] at q
    intro J Hb0 H0 s0 t0 ok P hP
    have hn : ¬ A.dl P := s0.fin.hr.fresh hP
    have h0 : NtN B.h0 P := s0.fin.h0n hP
    have np : ¬ B.pr P := fun z => by
      obtain ⟨⟨o, h1, _⟩, _⟩ := s0.pr P z
      rw [hP] at h1
      cases h1
    refine ⟨fun i m H' => ∃ (Hb' : Hp) (c' : Cfg) (acc : List D) (xs : List V), Same Hb0 Hb' ∧ Sr A (B.prot P) Hb' H' σ c' ∧ i + m = ds.length ∧ H' P = some (.lst xs) ∧ RepL A Hb' acc xs ∧ Kept A H0 H' ∧
      EPost A B E Hb H σ Q (goLc tgt vs ft fe (ds.drop i) acc c').toE, ⟨ds.length, Hb0, c1, [], [], Same.refl _, s0.prot hP, by omega, upd_same, RepL.nil, .of (same_upd hP), by simpa using q⟩, ?_⟩
    rintro i m H' ⟨Hb', c', acc, xs, e', s', hm, hx, hr, kp, q'⟩
    obtain ⟨k1, k2⟩ := ok i (B.prot P) Hb' H' σ c' e' s'
    by_cases hi : i < ds.length
    · have hd : ds[i]? = some ds[i] := List.getElem?_eq_getElem hi
      obtain ⟨g1, g2⟩ := k2 _ hd
      rw [List.drop_eq_getElem_cons hi] at q'
      refine .inr ⟨g1, fun H2 => ∃ (Hb2 : Hp) (c2 : Cfg) (acc : List D) (xs : List V), Same Hb0 Hb2 ∧ Sr A (B.prot P) Hb2 H2 σ c2 ∧ H2 P = some (.lst xs) ∧ RepL A Hb2 acc xs ∧ Kept A H0 H2 ∧ EPost A B E Hb H σ Q (goLc tgt vs ft fe (ds.drop (i + 1)) acc c2).toE, ?_, ?_⟩
      · rintro H2 ⟨Hb2, c2, acc2, xs2, e2, s2, x2, r2, kp2, q2⟩
        exact ⟨m - 1, by omega, Hb2, c2, acc2, xs2, e2, s2, by omega, x2, r2, kp2, q2⟩
      · intro x H2 hy
        obtain ⟨Hb2, e2, kp2, s2, r2⟩ := g2 x H2 hy
        unfold goLc at q'
        cases et : tgt ds[i] (c'.wipe vs) with
        | none => rw [et] at q'; exact False.elim q'
        | some c2 =>
          rw [et] at q'
          refine hs (B.prot P) Hb2 H2 (wipe σ vs) (c'.wipe vs) c2 _ x _ (s2.wiped vs) r2 et fun σ3 s3 k3 => ?_
          have l3 : σ3.length = σ.length := k3.1.trans (wipe_len σ vs)
          have k3' : ∀ i : Nat, i ∉ vs → σ3[i]? = σ[i]? := fun i hi => (k3.2 i fun z => hi (hj i z)).trans (wipe_out hi)
          refine ⟨?_, ?_⟩
          · apply List.ext_getElem?
            intro j
            by_cases hjv : j ∈ vs
            · by_cases hl : j < σ.length
              · rw [wipe_in hjv (by rw [l3]; exact hl), wipe_in hjv hl]
              · rw [List.getElem?_eq_none (by rw [wipe_len, l3]; omega), List.getElem?_eq_none (by rw [wipe_len]; omega)]
            · rw [wipe_out hjv, wipe_out hjv]
              exact k3' j hjv
          · replace q' : EPost A B E Hb H σ Q (LR.toE (match ft c2 with
              | .ok _ (.bl false) c2 => goLc tgt vs ft fe (ds.drop (i + 1)) acc (Cfg.mrg vs c' c2)
              | .ok _ (.bl true) c2 => match fe c2 with
                | .ok .bo _ _ => .bad
                | .ok _ d' c3 => if acc.length < big then goLc tgt vs ft fe (ds.drop (i + 1)) (acc ++ [d']) (Cfg.mrg vs c' c3) else .bad
                | _ => .bad
              | _ => .bad)) := q'
            refine ⟨B.prot P, Hb2, c2, s3, ?_⟩
            cases ef : ft c2 with
            | bad => rw [ef] at q'; exact q'.elim
            | exc x W => rw [ef] at q'; exact q'.elim
            | ok k d1 c3 =>
              rw [ef] at q'
              cases d1 with
              | bl b =>
                refine ⟨b, rfl, fun Hb3 H3 s4 t4 => ?_⟩
                cases b with
                | false =>
                  exact ⟨Hb3, Cfg.mrg vs c' c3, acc, xs, (e'.trans e2).trans t4.b, Sr.back s2 t4.b s4 k3' l3, t4.k.eq _ _ (kp2.eq _ _ hx hn (by intro _ z; cases z)) hn (by intro _ z; cases z), RepL.mono (e2.trans t4.b) _ _ hr, (kp.trans kp2).trans t4.k, q'⟩
                | true =>
                  replace q' : EPost A B E Hb H σ Q (LR.toE (match fe c3 with
                    | .ok .bo _ _ => .bad
                    | .ok _ d' c3 => if acc.length < big then goLc tgt vs ft fe (ds.drop (i + 1)) (acc ++ [d']) (Cfg.mrg vs c' c3) else .bad
                    | _ => .bad)) := q'
                  refine ⟨B.prot P, Hb3, c3, s4, ?_⟩
                  cases eg : fe c3 with
                  | bad => rw [eg] at q'; exact q'.elim
                  | exc x W => rw [eg] at q'; exact q'.elim
                  | ok k2 d2 c4 =>
                    rw [eg] at q'
                    have hk : k2 ≠ .bo := by intro z; rw [z] at q'; exact q'.elim
                    replace q' : EPost A B E Hb H σ Q (LR.toE (if acc.length < big then goLc tgt vs ft fe (ds.drop (i + 1)) (acc ++ [d2]) (Cfg.mrg vs c' c4) else .bad)) := by
                      cases k2 with
                      | bo => exact q'.elim
                      | st => exact q'
                      | fr => exact q'
                    by_cases hb : acc.length < big
                    · rw [if_pos hb] at q'
                      intro v Hb4 H4 s5 t5 k5
                      obtain ⟨Hb5, s6, e6, r6⟩ := RepK.keep s5 k5 hk
                      have eb : Same Hb2 Hb5 := (t4.b.trans t5.b).trans e6
                      have x4 : H4 P = some (.lst xs) := t5.k.eq _ _ (t4.k.eq _ _ (kp2.eq _ _ hx hn (by intro _ z; cases z)) hn (by intro _ z; cases z)) hn (by intro _ z; cases z)
                      have hP4 : Kept A H0 H4 := ((kp.trans kp2).trans t4.k).trans t5.k
                      exact ⟨xs, x4, by rw [← hr.len]; exact Nat.lt_of_lt_of_le hb (by decide), Hb5, Cfg.mrg vs c' c4, acc ++ [d2], xs ++ [v], (e'.trans e2).trans eb, (Sr.back s2 eb s6 k3' l3).grow x4 hn h0, upd_same, (RepL.mono (e2.trans eb) _ _ hr).append (RepL.cons r6 RepL.nil), hP4.updN hP, q'⟩
                    · rw [if_neg hb] at q'; exact q'.elim
              | _ => exact q'.elim
    · have : ds.drop i = [] := List.drop_eq_nil_of_le (by omega)
      rw [this] at q'
      refine .inl ⟨k1 (by omega), q' _ Hb' H' s'.unprot ⟨t0.b.trans e', t0.k.trans kp⟩ ⟨P, ⟨_, rfl, hx, ⟨xs, rfl, hr⟩, (s'.pr P (.inr rfl)).2.1, hn, h0, np⟩, (s'.pr P (.inr rfl)).2.2⟩⟩
end
end DL
namespace DL
open PySem PySem.Spec PyProof.Rows L2

/-! ### comprehensions: the rules -/
section
variable {X : Cx} {A : Am} {B : Bs} {E : XS} {Hb H Hb1 H1 : Hp} {σ : List (Option V)} {c c1 : Cfg} {fa fb fc ft fe : EF} {f g : SF} {De : Ends} {ga gb : AF}
theorem de_lc {elt tg iter : Expr} {ifs : List Expr} {scope : Scope} {own : List (Str × Nat)} {pos : Pos} {gt : TG} {js : List Nat} {tgt : D → Cfg → Option Cfg} (hc : X.calm = true) (hN : X.N.Nodup) (hi : DI X A B E tg iter ga) (ok : BlkOk X.N X.env.scope scope own)
    (hg : ∀ (s : Shared) (H : Hp) (C : Addr) (cl : List (Str × Addr)) (fp : List Addr), PG (X.blk s H scope (compEnvC scope cl C X.env) fp) tg gt) (hs : TgS A gt js tgt) (hj : (js.all fun j => (own.map (·.2)).contains j) = true)
    (ht : ∀ (s : Shared) (H : Hp) (C : Addr) (cl : List (Str × Addr)) (fp : List Addr) (B : Bs), PTs (X.blk s H scope (compEnvC scope cl C X.env) fp) ifs (rdT A B E0S ft))
    (he : ∀ (s : Shared) (H : Hp) (C : Addr) (cl : List (Str × Addr)) (fp : List Addr) (B : Bs), DE (X.blk s H scope (compEnvC scope cl C X.env) fp) A B E0S elt fe) (hz : ∀ x, foldedSetIterable iter X.env x = pure x := by intro _; rfl) :
    DE X A B E (.ListComp elt [⟨tg, iter, ifs, 0⟩] scope pos) (evLc ga tgt (own.map (·.2)) ft fe) :=
  PE.imp (pe_lc hc hN hi ok hg (fun s H C cl fp => ptsx (ht s H C cl fp)) (fun s H C cl fp => pex (he s H C cl fp)) hz) fun σ H Q ⟨Hb, c, s, q⟩ =>
    rd_lc (tg := tg) (iter := iter) hs (fun j h => by simpa using List.all_eq_true.mp hj j h) s q
theorem ds_setLc {i : Nat} {y : Str} {py : Pos} {elt tg iter : Expr} {ifs : List Expr} {scope : Scope} {own : List (Str × Nat)} {pos spos : Pos} {gt : TG} {js : List Nat} {tgt : D → Cfg → Option Cfg} (hc : X.calm = true) (hN : X.N.Nodup) (hy : X.N[i]? = some y) (hyl : X.env.scope.names.lookup y = some .local)
    (hsw : swapsWith (.ListComp elt [⟨tg, iter, ifs, 0⟩] scope pos) (some (.Name y py)) spos.line X.env = pure true) (hi : DI X A B E tg iter ga) (ok : BlkOk X.N X.env.scope scope own)
    (hg : ∀ (s : Shared) (H : Hp) (C : Addr) (cl : List (Str × Addr)) (fp : List Addr), PG (X.blk s H scope (compEnvC scope cl C X.env) fp) tg gt) (hs : TgS A gt js tgt) (hj : (js.all fun j => (own.map (·.2)).contains j) = true)
    (ht : ∀ (s : Shared) (H : Hp) (C : Addr) (cl : List (Str × Addr)) (fp : List Addr) (B : Bs), PTs (X.blk s H scope (compEnvC scope cl C X.env) fp) ifs (rdT A B E0S ft))
    (he : ∀ (s : Shared) (H : Hp) (C : Addr) (cl : List (Str × Addr)) (fp : List Addr) (B : Bs), DE (X.blk s H scope (compEnvC scope cl C X.env) fp) A B E0S elt fe) (hz : ∀ x, foldedSetIterable iter X.env x = pure x := by intro _; rfl) :
    DS X A B E (.Assign [.Name y py] (.ListComp elt [⟨tg, iter, ifs, 0⟩] scope pos) spos) (sSet i (evLc ga tgt (own.map (·.2)) ft fe)) :=
  ds_set (PS.imp (ps_setLc hc hN hy hyl hsw hi ok hg (fun s H C cl fp => ptsx (ht s H C cl fp)) (fun s H C cl fp => pex (he s H C cl fp)) (hs := hz)) fun D σ H q => by
    obtain ⟨Hb, c, s, q⟩ := q
    exact rd_lc (tg := tg) (iter := iter) hs (fun j h => by simpa using List.all_eq_true.mp hj j h) s q)
/-! ### targets: a list opened -/
def tgUnl (n : Nat) (g : List D → Cfg → Option Cfg) : D → Cfg → Option Cfg
  | .lst ds, c => if ds.length = n then g ds c else none
  | _, _ => none
theorem tgs_unl {K : PySem.W.Frag} {t : TGs} {js : List Nat} {n : Nat} {g : List D → Cfg → Option Cfg} (h : TgsS A t js g) : TgS A (gUnl K n t) js (tgUnl n g) := fun B Hb H σ c c' d v Q s r e q => by
  cases d with
  | lst ds =>
    replace e : (if ds.length = n then g ds c else none) = some c' := e
    by_cases hl : ds.length = n
    · rw [if_pos hl] at e
      obtain ⟨a, xs, rfl, g1, g2⟩ := rep_lst.mp r
      exact ⟨a, xs, rfl, SqL.of (s.same _ _ g1), by rw [← g2.len]; exact hl, h B Hb H σ c c' ds xs Q s g2 e q⟩
    · rw [if_neg hl] at e; cases e
  | _ => cases e
/-! ### enumerate -/
def enumD : Nat → List D → List D
  | _, [] => []
  | k, d :: ds => .tup [.int (k : Nat), d] :: enumD (k + 1) ds
theorem enumD_len : ∀ (k : Nat) (ds : List D), (enumD k ds).length = ds.length
  | _, [] => rfl
  | k, d :: ds => by
    show (enumD (k + 1) ds).length + 1 = _
    rw [enumD_len (k + 1) ds]
    rfl
theorem enumD_get : ∀ {k i : Nat} {ds : List D} {e : D}, (enumD k ds)[i]? = some e → ∃ d, ds[i]? = some d ∧ e = .tup [.int ((k + i : Nat) : Int), d]
  | k, i, [], e, h => by
    unfold enumD at h
    simp at h
  | k, 0, d :: ds, e, h => by
    replace h : some (D.tup [.int (k : Nat), d]) = some e := h
    exact ⟨d, rfl, (Option.some.inj h).symm⟩
  | k, i + 1, d :: ds, e, h => by
    replace h : (enumD (k + 1) ds)[i]? = some e := h
    obtain ⟨d', h1, h2⟩ := enumD_get h
    refine ⟨d', h1, ?_⟩
    rw [h2, show k + 1 + i = k + (i + 1) by omega]
/-- what a turn of enumerate over the tuple at a gives -/
def IteT (a : Addr) : It :=
  ⟨fun i H => ∃ (xs : List V) (x : V), H a = some (.tup xs) ∧ xs[i]? = some x,
   fun i H v H' => ∃ (T : Addr) (x : V), v = .ref T ∧ H T = none ∧ H' = upd H T (.tup [.int (i : Nat), x]) ∧ ∀ xs : List V, H a = some (.tup xs) → xs[i]? = some x,
   fun i H => ∃ xs : List V, H a = some (.tup xs) ∧ i = xs.length⟩
/-- where it stands between the turns -/
def EnSt (e it a i : Nat) (h : Heap) : Prop := (∃ old, IsEnum h e it ((i : Nat) : Int) old) ∧ h.IsTupleIter it a i ∧ e ≠ it
theorem turn_enT {P : Program} {w : World} {K : PySem.W.Frag} {elts : List Expr} {kk : Nat} {tpos : Pos} (a e it : Addr) : Turn P w K (.Tuple elts kk tpos) (IteT a) [e, it] e (EnSt e it a) := by
  refine { mem := List.mem_cons_self, obj := ?_, keep := ?_, item := ?_, done := ?_, self := ?_ }
  · rintro i h ⟨⟨old, he⟩, ⟨o, ho, hc, hd⟩, _⟩ b hb
    rcases List.mem_cons.mp hb with z | z
    · subst z
      exact ⟨_, he, fun v q => nomatch q⟩
    · have z := List.mem_singleton.mp z
      subst z
      exact ⟨o, ho, fun v q => by rw [hd] at q; cases q⟩
  · rintro i h h' ⟨⟨old, he⟩, hi, hn⟩ k
    exact ⟨⟨old, k e List.mem_cons_self _ he⟩, hi.at fun o q => k it (List.mem_cons_of_mem _ List.mem_cons_self) o q, hn⟩
  · rintro X rfl rfl rfl hc i pins s σ H E I hf ⟨⟨old, he⟩, hit, hn⟩ ⟨xs, x, ha, hx⟩
    obtain ⟨hsz0, its, rv, ht⟩ := I.hok a _ ha
    obtain ⟨u, hu, ru⟩ := rv.get hx
    have fe := hf e List.mem_cons_self
    have fi := hf it (List.mem_cons_of_mem _ List.mem_cons_self)
    have nae : e ≠ a := fun z => by have := fe.1; rw [z, ha] at this; cases this
    have nai : a ≠ it := fun z => by have := fi.1; rw [← z, ha] at this; cases this
    have hel : e < s.heap.objs.size := Heap.lt_size he
    have hil : it < s.heap.objs.size := by
      obtain ⟨_, q, _⟩ := hit
      exact Heap.lt_size q
    have hlt : i < its.toArray.size := by
      rw [List.size_toArray]
      exact (List.getElem?_eq_some_iff.mp hu).1
    have ht' : s.heap.IsTuple a its.toArray := ht
    refine wpAny_pyNext_enum_itemD (A := X.A) (Draws.tuple (prog := X.prog) (w := X.w) (A := X.A.in1) (I.ok.hd hc) it a nai its.toArray) he ⟨hit, ht'⟩ hlt hn (fun z => by
      rcases List.mem_cons.mp z with z | z
      · exact hn z
      · exact nae (List.mem_singleton.mp z)) fun y h' tk hy ho hst hT hsz hk => ?_
    have ey : y = u := by
      rw [show its.toArray[i]? = some u by simpa using hu] at hy
      exact (Option.some.inj hy).symm
    subst ey
    refine ⟨_, rfl, wpAny_letOwnedTupleGo_enum (s := { s with heap := h', toks := tk + 1 }) ho fun h2 he2 sb => ?_⟩
    have hT2 : h2.get? s.heap.objs.size = some { cls := .type "tuple", data := .seq #[.int i tk, y] } := (sb.2 _ (Nat.ne_of_gt hel)).trans hT
    have new : ObjOk X.prog X.w (upd H s.heap.objs.size (.tup [.int (i : Nat), x])) h2 s.heap.objs.size (.tup [.int (i : Nat), x]) :=
      ⟨by show 2 ≤ sizeLine; decide, [.int i tk, y], .cons ⟨_, rfl⟩ (.cons ru .nil), ⟨_, hT2, rfl, _, rfl⟩⟩
    have I2 : Inv X pins σ (upd H s.heap.objs.size (.tup [.int (i : Nat), x])) { s with heap := h2, toks := tk + 1 } :=
      I.turnedNew (ch := [e, it]) (fun b ob hb q => (sb.2 b (fun z => hb (by rw [z]; exact List.mem_cons_self))).trans (hk b ob (fun z => hb (by rw [z]; exact List.mem_cons_self)) (fun z => hb (by rw [z]; exact List.mem_cons_of_mem _ List.mem_cons_self)) q)) hf (Nat.le_refl _) new
    refine ⟨.ref s.heap.objs.size, _, I2, rfl, ⟨_, x, rfl, I.hok.fresh (Nat.le_refl _), rfl, fun ys hy => by rw [ha] at hy; cases hy; exact hx⟩, ⟨⟨y, ?_⟩, ?_, hn⟩, fun b hb => ?_⟩
    · rw [show ((i + 1 : Nat) : Int) = (i : Int) + 1 by omega]
      exact he2
    · exact hst.1.at fun o q => (sb.2 it (Ne.symm hn)).trans q
    · have hb' : b < s.heap.objs.size := by
        rcases List.mem_cons.mp hb with z | z
        · rw [z]; exact hel
        · rw [List.mem_singleton.mp z]; exact hil
      rw [upd_ne (Nat.ne_of_lt hb')]
      exact (hf b hb).1
  · rintro X rfl rfl rfl hc i pins s σ H E I hf ⟨⟨old, he⟩, hit, hn⟩ ⟨xs, ha, hx⟩
    obtain ⟨hsz0, its, rv, ht⟩ := I.hok a _ ha
    obtain ⟨f0, f1, f2, f3, f4, f5⟩ := hf it (List.mem_cons_of_mem _ List.mem_cons_self)
    have nai : a ≠ it := fun z => by rw [← z, ha] at f0; cases f0
    have ht' : s.heap.IsTuple a its.toArray := ht
    have hsz : i = its.toArray.size := by rw [List.size_toArray, hx]; exact rv.length
    refine wpAny_pyNext_enum_endD (A := X.A) (Draws.tuple (prog := X.prog) (w := X.w) (A := X.A.in1) (I.ok.hd hc) it a nai its.toArray) he (by rw [← hsz]; exact ⟨hit, ht'⟩) fun h' eb => ⟨rfl, I.turned (t' := s.toks) (fun b o hb q => eb b o hb q) f0 f1 f3 f4 f5⟩
  · rintro Ar i s Q E ⟨⟨_, he⟩, _⟩ h
    exact wpAny_pyIter_enum he h
end
end DL
namespace PySem
open Sem (wp)
open AutoSeq1 (wpAny_loadPart')
/-- enumerate of one thing whose iterator is told -/
theorem mk_en1 {v : Value} {o : Obj} {H : Heap → Prop} (B : Begins v o H) :
    Meets (Builtin.«enumerate.__new__» ⟨[.type "enumerate", v], []⟩) (fun _ R s => H s.heap ∧
      R (.ok (.ret (.ref (s.heap.push o).objs.size))) { s with heap := (s.heap.push o).push { cls := .type "enumerate", data := .fields #[.none, .bool false, .ref s.heap.objs.size, rawInt 0, .none, .none] } }) := by
  refine .of_wp fun prog w A R s h => ?_
  obtain ⟨hp, gn, dr, tk, os⟩ := s
  obtain ⟨h1, h2⟩ := h
  have hsub := sub_enumerate
  have it1 : ∀ {A' : Around} {E Q : Value → Shared → Prop}, Q (.ref hp.objs.size) ⟨hp.push o, gn, dr, tk, os⟩ → wpAny (model prog w) A' (pyIter v) Q E ⟨hp, gn, dr, tk, os⟩ := fun q => B.iter prog w _ _ ⟨hp, gn, dr, tk, os⟩ _ h1 q
  wp_walk using it1
  refine wpAny_stack_any fun st => wpAny_pure ?_
  split
  · rename_i c _ _ _ _ _
    cases (c == Value.type "enumerate") with
    | false =>
      wp_walk using it1
      exact ⟨_, rfl, h2⟩
    | true =>
      wp_walk using it1
      exact ⟨_, rfl, h2⟩
  · wp_walk using it1
    exact ⟨_, rfl, h2⟩
theorem call_en1 {prog : Program} {w : World} {A : Around} {E : Value → Shared → Prop} {s : Shared} {v : Value} {o : Obj} {H : Heap → Prop} {Q : Value → Shared → Prop} (B : Begins v o H) (h1 : H s.heap)
    (h : ∀ h', IsEnum h' (s.heap.objs.size + 1) s.heap.objs.size 0 .none → h'.get? s.heap.objs.size = some o → (∀ b u, s.heap.get? b = some u → h'.get? b = some u) → Q (.ref (s.heap.objs.size + 1)) { s with heap := h' }) :
    wpAny (model prog w) A (call (.type "enumerate") [v]) Q E s := by
  refine callType_new F.called_enumerate (by decide) (F.typeCall_enumerate_1 _) (F.newCall_enumerate_1 _) (fun obj => F.args_object_init_2 obj _) F.entry_enumerate_new (mk_en1 B) ⟨h1, ?_⟩
  have hz : (s.heap.push o).objs.size = s.heap.objs.size + 1 := Heap.size_push ..
  show _ ∧ _
  rw [hz]
  have he : IsEnum ((s.heap.push o).push { cls := .type "enumerate", data := .fields #[.none, .bool false, .ref s.heap.objs.size, rawInt 0, .none, .none] }) (s.heap.objs.size + 1) s.heap.objs.size 0 .none := by
    have z := Heap.get?_push_size (s.heap.push o) (o := { cls := .type "enumerate", data := .fields #[.none, .bool false, .ref s.heap.objs.size, rawInt 0, .none, .none] }) rfl
    rw [hz] at z
    exact z
  exact ⟨⟨_, he, rfl⟩, h _ he (Heap.get?_push_of_some _ (Heap.get?_push_size _ B.free)) fun b u x => Heap.get?_push_of_some _ (Heap.get?_push_of_some _ x)⟩
end PySem
namespace DL
open PySem PySem.Spec PyProof.Rows L2
section
variable {X : Cx} {A : Am} {B : Bs} {E : XS} {Hb H Hb1 H1 : Hp} {σ : List (Option V)} {c c1 : Cfg} {fa fb fc ft fe : EF} {f g : SF} {De : Ends} {ga gb : AF}
/-- enumerate over a tuple -/
def iEnT (ta : TA) : TI := fun σ H R => ta σ H fun vs H1 => ∃ (a : Addr) (xs : List V), vs = [.ref a] ∧ H1 a = some (.tup xs) ∧ R (IteT a) H1
theorem pi_enT {e : Expr} {ta : TA} {p pos tpos : Pos} {elts : List Expr} {kk : Nat} (hg : Gl X "enumerate") (hm : X.mg "enumerate" = none) (ha : PA X [e] ta) (hs : starEach [e] X.env = [(false, eval e X.env)] := by rfl) :
    PI X (.Tuple elts kk tpos) (.Call (.Name "enumerate" p) [e] [] pos) (iEnT ta) := by
  refine ⟨fun pins s σ H R I h => ?_⟩
  refine Call_ (ld_blt I hg hm boot_enumerate (PyProof.Rows.callWith_type1 (thn (ha.run pos pins s σ H _ I h) fun us s1 hh => ?_) hs rfl))
  obtain ⟨vs, H1, I1, r1, a, xs, ex, hq, q⟩ := hh
  subst ex
  obtain ⟨u, rfl, ru⟩ := r1.one
  obtain rfl : u = Value.ref a := ru
  obtain ⟨_, its, rv, ht⟩ := I1.hok a _ hq
  have ht' : s1.heap.IsTuple a its.toArray := ht
  refine call_en1 (begins_tuple a its.toArray) ht' fun h' he hit hk => wpAny_pyIter_enum he ?_
  have I2 : Inv X pins σ H1 { s1 with heap := h' } := I1.kept (t' := s1.toks) hk
  refine ⟨s1.heap.objs.size + 1, [s1.heap.objs.size + 1, s1.heap.objs.size], _, _, H1, rfl, I2, turn_enT a (s1.heap.objs.size + 1) s1.heap.objs.size, ⟨⟨.none, he⟩, ⟨_, hit, rfl, rfl⟩, Nat.succ_ne_self _⟩, fun b hb => ?_, q⟩
  have hle : s1.heap.objs.size ≤ b := by
    rcases List.mem_cons.mp hb with z | z
    · rw [z]; exact Nat.le_succ _
    · rw [List.mem_singleton.mp z]; exact Nat.le_refl _
  exact I1.fpOk hle (I1.hok.fresh hle)
theorem itok_enT {a : Addr} {xs : List V} {ds : List D} {Hb0 : Hp} (h : Hb0 a = some (.tup xs)) (r : RepL A Hb0 ds xs) : ItOk A (IteT a) Hb0 (enumD 0 ds) := fun i B Hb H σ c e s => by
  have hH : H a = some (.tup xs) := s.same _ _ (e _ _ h)
  refine ⟨fun hl => ⟨xs, hH, by rw [← r.len, hl, enumD_len]⟩, fun d hd => ?_⟩
  obtain ⟨d', hd', rfl⟩ := enumD_get hd
  obtain ⟨x, h1, h2⟩ := r.get hd'
  refine ⟨⟨xs, x, hH, h1⟩, fun y H' hy => ?_⟩
  obtain ⟨T, x', rfl, hT, rfl, g⟩ := hy
  have := g xs hH
  rw [h1] at this
  cases this
  rw [Nat.zero_add]
  obtain ⟨g1, g2, g3⟩ := s.newTup hT (RepL.cons (rep_int.mpr rfl) (RepL.cons (Rep.mono e _ _ h2) RepL.nil))
  exact ⟨_, g2.b, g2.k, g1, g3⟩
theorem itok_enL {K : PySem.W.Frag} {a : Addr} {xs : List V} {ds : List D} {Hb0 : Hp} (h : Hb0 a = some (.lst xs)) (r : RepL A Hb0 ds xs) : ItOk A (Ite K a) Hb0 (enumD 0 ds) := fun i B Hb H σ c e s => by
  have hH : H a = some (.lst xs) := s.same _ _ (e _ _ h)
  refine ⟨fun hl => ⟨xs, SqL.of hH, by rw [← r.len, hl, enumD_len]; exact Nat.le_refl _⟩, fun d hd => ?_⟩
  obtain ⟨d', hd', rfl⟩ := enumD_get hd
  obtain ⟨x, h1, h2⟩ := r.get hd'
  refine ⟨⟨xs, x, SqL.of hH, h1⟩, fun y H' hy => ?_⟩
  obtain ⟨T, x', rfl, hT, rfl, g⟩ := hy
  have := g xs (SqL.of hH)
  rw [h1] at this
  cases this
  rw [Nat.zero_add]
  obtain ⟨g1, g2, g3⟩ := s.newTup hT (RepL.cons (rep_int.mpr rfl) (RepL.cons (Rep.mono e _ _ h2) RepL.nil))
  exact ⟨_, g2.b, g2.k, g1, g3⟩
/-- enumerate(e) -/
def evEn (g : AF) : AF := fun c => match g c with
  | .ok [.lst ds] c1 => .ok (enumD 0 ds) c1
  | .ok [.tup ds] c1 => .ok (enumD 0 ds) c1
  | .ok _ _ => .bad
  | .exc x W => .exc x W
  | .bad => .bad
theorem di_en {e : Expr} {p pos tpos : Pos} {elts : List Expr} {kk : Nat} (hg : Gl X "enumerate") (hm : X.mg "enumerate" = none) (ha : DA X A B E [e] ga) (hs : starEach [e] X.env = [(false, eval e X.env)] := by rfl) :
    DI X A B E (.Tuple elts kk tpos) (.Call (.Name "enumerate" p) [e] [] pos) (evEn ga) :=
  PI.imp (PI.or (pi_enum hg hm ha hs) (pi_enT hg hm ha hs)) fun σ H R ⟨Hb, c, s, q⟩ => by
    unfold evEn at q
    cases ef : ga c with
    | exc x W =>
      rw [ef] at q
      refine .inl ⟨Hb, c, s, ?_⟩
      rw [ef]
      exact q
    | bad => rw [ef] at q; exact False.elim q
    | ok es c1 =>
      rw [ef] at q
      match es, q with
      | [.lst ds], q =>
        refine .inl ⟨Hb, c, s, ?_⟩
        rw [ef]
        intro vs Hb1 H1 s1 t1 k1
        obtain ⟨x, xs, rfl, hx, hr⟩ := repL_cons.mp k1
        rw [repL_nil.mp hr]
        obtain ⟨a, ys, rfl, h1, h2⟩ := rep_lst.mp hx
        exact ⟨a, ys, rfl, SqL.of (s1.same _ _ h1), q _ Hb1 H1 s1 t1 (itok_enL h1 h2)⟩
      | [.tup ds], q =>
        refine .inr ⟨Hb, c, s, ?_⟩
        rw [ef]
        intro vs Hb1 H1 s1 t1 k1
        obtain ⟨x, xs, rfl, hx, hr⟩ := repL_cons.mp k1
        rw [repL_nil.mp hr]
        obtain ⟨a, ys, rfl, h1, h2⟩ := rep_tup.mp hx
        exact ⟨a, ys, rfl, s1.same _ _ h1, q _ Hb1 H1 s1 t1 (itok_enT h1 h2)⟩
end
end DL
namespace DL
open PySem PySem.Spec PyProof.Rows L2
section
variable {X : Cx} {A : Am} {B : Bs} {E : XS} {Hb H Hb1 H1 : Hp} {σ : List (Option V)} {c c1 : Cfg} {fa fb fc ft fe : EF} {f g : SF} {De : Ends} {ga gb : AF}
/-! ### two names at once, either may be a list of the frame's own -/
theorem Fin.prot {W : Wd} (P : Addr) (f : Fin A B Hb H W) : Fin A (B.prot P) Hb H W := ⟨f.hr, f.b0, f.kp, f.nb⟩
theorem Fin.unprot {W : Wd} {P : Addr} (f : Fin A (B.prot P) Hb H W) : Fin A B Hb H W := ⟨f.hr, f.b0, f.kp, f.nb⟩
theorem ExcC.prot {E : XK} {x : XD} {c : Cfg} (P : Addr) (h : ExcC A B E Hb σ x c) : ExcC A (B.prot P) E Hb σ x c := fun cls dd Hb' H' e f z => h cls dd Hb' H' e f.unprot z
theorem Sr.protO {a : Addr} {d : D} {v : V} (s : Sr A B Hb H σ c) (h : FrO A B Hb H d v a) (no : ∀ (i : Nat) (d' : D), c.r[i]? = some (some (true, d')) → σ[i]? ≠ some (some (V.ref a))) : Sr A (B.prot a) Hb H σ c := by
  obtain ⟨o, h1, h2, h3, h4, h5, h6, h7⟩ := h
  exact ⟨s.fin.prot a, s.len, s.sh, s.ow, s.sep, fun p hp => by
    rcases hp with hp | rfl
    · exact s.pr p hp
    · exact ⟨⟨o, h2, h3.notb⟩, h4, no⟩⟩
def rdEy (A : Am) (E : XS) (f : EF) : TE := fun σ H Q => ∃ B, rdE A B E f σ H Q
theorem pey {e : Expr} (h : ∀ B, DE X A B E e fe) : PE X e (rdEy A E fe) := ⟨fun pins s σ H Q I ⟨B, q⟩ => (h B).run pins s σ H Q I q⟩
def sParK (i j : Nat) (fa fb : EF) : SF := fun c => (fa c).toS fun k1 d1 c1 => (fb c1).toS fun k2 d2 c2 => (putK i k1 d1 c2).bind (putK j k2 d2)
theorem rd_par {i j : Nat} (hij : i ≠ j) (s : Sr A B Hb H σ c) (q : SPost A B E Hb De (sParK i j fa fb c)) : tPar i j (tCons (rdE A B E fa) (tCons (rdEy A E fb) tNil)) De σ H := by
  show rdE A B E fa σ H fun x H1 => rdEy A E fb σ H1 fun y H2 => ∃ v w, [x, y] = [v, w] ∧ De.nx ((σ.set i (some v)).set j (some w)) H2
  unfold sParK at q
  refine rs_then s q fun k1 d1 c1 v Hb1 H1 _ s1 t1 r1 q1 => ?_
  -- what the second brings, over any base B'
  have fin : ∀ (Hb2 H2 : Hp) (k2 : Kd) (d2 : D) (c2 : Cfg) (w : V), Sr A B Hb2 H2 σ c2 → RepK A B Hb2 H2 σ c2 k1 d1 v → RepK A B Hb2 H2 σ c2 k2 d2 w → (∀ a, k1 = .fr → k2 = .fr → v = .ref a → w ≠ .ref a) → SPost A B E Hb2 De ((putK i k1 d1 c2).bind (putK j k2 d2)) →
      De.nx ((σ.set i (some v)).set j (some w)) H2 := fun Hb2 H2 k2 d2 c2 w s2 ra rb ne q => by
    unfold putK at q
    by_cases hi : i < c2.r.length
    · rw [if_pos hi] at q
      cases k1 with
      | bo => exact q.elim
      | st =>
        have s3 := s2.setS hi ra
        refine s3.putK (i := j) (k := k2) (d := d2) ?_ q
        cases k2 with
        | st => exact rb
        | bo => exact rb
        | fr =>
          obtain ⟨a, g1, g2⟩ := rb
          refine ⟨a, g1, fun l d' hl z => ?_⟩
          rcases put_get hl with ⟨_, h⟩ | ⟨n, h⟩
          · cases h
          · rw [List.getElem?_set_ne (Ne.symm n)] at z
            exact g2 l d' h z
      | fr =>
        obtain ⟨a, g1, g2⟩ := ra
        have s3 := s2.setO hi g1 g2
        refine s3.putK (i := j) (k := k2) (d := d2) ?_ q
        cases k2 with
        | st => exact rb
        | bo => exact rb
        | fr =>
          obtain ⟨b, e1, e2⟩ := rb
          refine ⟨b, e1, fun l d' hl z => ?_⟩
          rcases put_get hl with ⟨h0, h⟩ | ⟨n, h⟩
          · subst h0
            have hs : l < σ.length := by rw [← s2.len]; exact hi
            rw [List.getElem?_set_self hs] at z
            obtain ⟨_, hv, _⟩ := g1
            obtain ⟨_, hw, _⟩ := e1
            exact ne a rfl rfl hv (by rw [hw, ← (Option.some.inj (Option.some.inj z)), hv])
          · rw [List.getElem?_set_ne (Ne.symm n)] at z
            exact e2 l d' h z
    · rw [if_neg hi] at q; exact q.elim
  cases k1 with
  | st =>
    exact ⟨B, rs_then s1 q1 fun k2 d2 c2 w Hb2 H2 _ s2 t2 r2 q2 => ⟨v, w, rfl, fin Hb2 H2 k2 d2 c2 w s2 (Rep.mono t2.b _ _ r1) r2 (fun a h => nomatch h) q2⟩⟩
  | bo =>
    exact ⟨B, rs_then s1 q1 fun k2 d2 c2 w Hb2 H2 _ s2 t2 r2 q2 => ⟨v, w, rfl, fin Hb2 H2 k2 d2 c2 w s2 (RepO.mono t2 r1) r2 (fun a h => nomatch h) q2⟩⟩
  | fr =>
    obtain ⟨a, h1, h2⟩ := r1
    have sp := s1.protO h1 h2
    refine ⟨B.prot a, Hb1, c1, sp, ?_⟩
    cases eb : fb c1 with
    | bad => rw [eb] at q1; exact q1
    | exc x W => rw [eb] at q1; exact (ExcC.prot a (q1 σ)).toE
    | ok k2 d2 c2 =>
      rw [eb] at q1
      intro w Hb2 H2 s2 t2 r2
      obtain ⟨o, e1, e2, e3, e4, e5, e6, e7⟩ := h1
      obtain ⟨_, p2, p3⟩ := s2.pr a (.inr rfl)
      have ra : RepK A B Hb2 H2 σ c2 .fr d1 v := ⟨a, ⟨o, e1, t2.k.eq a o e2 e5 e3.notb, e3.mono t2.b, p2, e5, e6, e7⟩, p3⟩
      have rb : RepK A B Hb2 H2 σ c2 k2 d2 w := by
        cases k2 with
        | st => exact r2
        | bo => exact r2
        | fr =>
          obtain ⟨b, ⟨u, g1, g2, g3, g4, g5, g6, g7⟩, g8⟩ := r2
          exact ⟨b, ⟨u, g1, g2, g3, g4, g5, g6, fun z => g7 (.inl z)⟩, g8⟩
      refine ⟨v, w, rfl, fin Hb2 H2 k2 d2 c2 w s2.unprot ra rb (fun b _ hk hv hw => ?_) (q1.mono t2.b)⟩
      subst hk
      obtain ⟨b', ⟨u, g1, g2, g3, g4, g5, g6, g7⟩, g8⟩ := r2
      rw [e1] at hv
      cases hv
      rw [g1] at hw
      cases hw
      exact g7 (.inr rfl)
theorem ds_par {i j : Nat} {x y : Str} {a b : Expr} {px py pt : Pos} {kt k2 pt2} {pos : Pos} (hc : X.calm = true) (hN : X.N.Nodup) (hi : X.N[i]? = some x) (hj : X.N[j]? = some y) (hij : i ≠ j)
    (hx : X.env.scope.names.lookup x = some .local) (hy : X.env.scope.names.lookup y = some .local) (ha : DE X A B E a fa) (hb : ∀ B, DE X A B E b fb)
    (hw : swappedStores [.Tuple [.Name x px, .Name y py] kt pt] (.Tuple [a, b] k2 pt2) X.env = pure (some [x, y]))
    (hs : swapsWithSole [.Tuple [.Name x px, .Name y py] kt pt] (.Tuple [a, b] k2 pt2) pos.line X.env = pure false := by rfl)
    (h1 : starEach [a, b] X.env = (false, eval a X.env) :: starEach [b] X.env := by rfl) (h2 : starEach [b] X.env = (false, eval b X.env) :: starEach [] X.env := by rfl) :
    DS X A B E (.Assign [.Tuple [.Name x px, .Name y py] kt pt] (.Tuple [a, b] k2 pt2) pos) (sParK i j fa fb) :=
  PS.imp (ps_par hc hN hi hj hij hx hy (pa_cons ha (pa_cons (pey hb) pa_nil h2) h1) hw hs) fun D σ H ⟨Hb, c, s, q⟩ => rd_par hij s q
/-! ### isinstance -/
inductive Ty5 where
  | int | bool | list | tuple | str
def Ty5.nm : Ty5 → String
  | .int => "int" | .bool => "bool" | .list => "list" | .tuple => "tuple" | .str => "str"
def isT : Ty5 → D → Option Bool
  | t, .non => some false
  | t, .bl _ => some (match t with | .int => true | .bool => true | _ => false)
  | t, .int _ => some (match t with | .int => true | _ => false)
  | t, .str _ => some (match t with | .str => true | _ => false)
  | t, .tup _ => some (match t with | .tuple => true | _ => false)
  | t, .lst _ => some (match t with | .list => true | _ => false)
  | _, .dK _ _ => some false
  | _, .dT _ _ => some false
  | _, _ => none
def isTs : List Ty5 → D → Option Bool
  | [], d => some false
  | t :: ts, d => match isT t d with
    | some true => some true
    | some false => isTs ts d
    | none => none
theorem tyX_of {d : D} {v : V} {b : Bool} {t : Ty5} (f : Same Hb H) (r : RepO A Hb H d v) (h : isT t d = some b) : ∃ T, TyX X.K H v T ∧ ∀ u b', isT u d = some b' → PySem.W.kitOne X.K T (.type u.nm) = some b' := by
  cases d with
  | non =>
    refine ⟨_, .base (by rw [r.non]; exact .non), fun u b' h => ?_⟩
    cases u <;> (cases h; exact kit_ty (by decide +kernel))
  | bl x =>
    refine ⟨_, .base (by rw [r.bl]; exact .bl x), fun u b' h => ?_⟩
    cases u <;> (cases h; exact kit_ty (by decide +kernel))
  | int x =>
    refine ⟨_, .base (by rw [r.int]; exact .int x), fun u b' h => ?_⟩
    cases u <;> (cases h; exact kit_ty (by decide +kernel))
  | str x =>
    refine ⟨_, .base (by rw [r.str]; exact .str x), fun u b' h => ?_⟩
    cases u <;> (cases h; exact kit_ty (by decide +kernel))
  | tup x =>
    obtain ⟨a, xs, rfl, h1, h2⟩ := r.tup
    refine ⟨_, .base (.tup (f _ _ h1)), fun u b' h => ?_⟩
    cases u <;> (cases h; exact kit_ty (by decide +kernel))
  | lst x =>
    obtain ⟨a, xs, rfl, h1, h2⟩ := r.lst f
    refine ⟨_, .base (.lst h1), fun u b' h => ?_⟩
    cases u <;> (cases h; exact kit_ty (by decide +kernel))
  | obj C ns ds => cases h
  | deal => cases h
  | err cn es => cases h
  | dK cn es =>
    obtain ⟨a, xs, rfl, h1, h2⟩ := r.dK f
    refine ⟨_, .base (.dK h1), fun u b' h => ?_⟩
    cases u <;> (cases h; exact kit_ty (by decide +kernel))
  | dT cn es =>
    obtain ⟨a, xs, rfl, h1, h2⟩ := r.dT f
    refine ⟨_, .base (.dT h1), fun u b' h => ?_⟩
    cases u <;> (cases h; exact kit_ty (by decide +kernel))
def gIsi (ts : List Ty5) (d : D) : Option (Kd × D) := (isTs ts d).map fun b => (.st, .bl b)
theorem de_isi1 {t : Ty5} {x : Str} {p pos q2 : Pos} {e : Expr} {u : Value} (hg : Gl X "isinstance") (hm : X.mg "isinstance" = none) (hg2 : Gl X x) (hm2 : X.mg x = none) (hv2 : bootBuiltins x = some (.type t.nm)) (ha : DE X A B E e fa)
    (hn : x ≠ "__name__" := by decide) (hdb : (x == ("__debug__" : Str)) = false := by decide)
    (he : starEach [e, .Name x q2] X.env = (false, eval e X.env) :: starEach [.Name x q2] X.env := by rfl) (hpl : (backTo pos (starEach [.Name x q2] X.env)).any (·.1) = false := by rfl) (he2 : starEach [.Name x q2] X.env = (false, eval (.Name x q2) X.env) :: starEach [] X.env := by rfl) :
    DE X A B E (.Call (.Name "isinstance" p) [e, .Name x q2] [] pos) (ev1 (gIsi [t]) fa) :=
  PE.imp (pe_callB call_isi hg hm (by with_unfolding_all rfl) (pa_cons ha (pa_cons (pe_bltn (v := .ty t.nm) hg2 hm2 hv2 rfl hn hdb) pa_nil he2) he) (by decide) (by decide) he hpl) fun σ H Q ⟨Hb, c, s, q⟩ => by
    show rdE A B E fa σ H fun v H1 => rIsi X.K [v, .ty t.nm] H1 Q
    refine rd_then s q fun k d c1 v Hb1 H1 _ s1 t1 r1 q1 => ?_
    have hh : ∃ b, isT t d = some b ∧ EPost A B E Hb1 H1 σ Q (.ok .st (.bl b) c1) := by
      unfold gIsi isTs at q1
      cases e : isT t d with
      | none => rw [e] at q1; exact q1.elim
      | some b =>
        rw [e] at q1
        cases b with
        | true => exact ⟨true, rfl, q1⟩
        | false => exact ⟨false, rfl, q1⟩
    obtain ⟨b, e1, q2⟩ := hh
    obtain ⟨T, h1, h2⟩ := tyX_of (X := X) s1.same r1.o e1
    exact ⟨v, _, T, _, b, rfl, .ty _, h1, h2 t b e1, q2 _ Hb1 H1 s1 .refl rk_bl⟩
theorem kitAnyT {d : D} {T : Value} : ∀ {ts : List Ty5} {b : Bool}, (∀ u b', isT u d = some b' → PySem.W.kitOne X.K T (.type u.nm) = some b') → isTs ts d = some b → PySem.W.kitAny X.K T (ts.map fun t => .type t.nm) = some b
  | [], b, _, h => by cases h; exact kitAny_nil
  | t :: ts, b, hk, h => by
    unfold isTs at h
    cases e : isT t d with
    | none => rw [e] at h; cases h
    | some z =>
      rw [e] at h
      cases z with
      | true =>
        cases h
        exact kitAny_cons (hk t true e) (fun z => nomatch z) fun _ => rfl
      | false => exact kitAny_cons (hk t false e) (fun _ => kitAnyT hk h) fun z => nomatch z
theorem de_isi2 {t1 t2 : Ty5} {x y : Str} {p pos q1 q2 q3 : Pos} {kt : Nat} {e : Expr} (hg : Gl X "isinstance") (hm : X.mg "isinstance" = none) (hg2 : Gl X x) (hm2 : X.mg x = none) (hv2 : bootBuiltins x = some (.type t1.nm)) (hg3 : Gl X y) (hm3 : X.mg y = none) (hv3 : bootBuiltins y = some (.type t2.nm)) (ha : DE X A B E e fa)
    (hn : x ≠ "__name__" := by decide) (hdb : (x == ("__debug__" : Str)) = false := by decide) (hn3 : y ≠ "__name__" := by decide) (hdb3 : (y == ("__debug__" : Str)) = false := by decide)
    (he : starEach [e, .Tuple [.Name x q1, .Name y q2] kt q3] X.env = (false, eval e X.env) :: starEach [.Tuple [.Name x q1, .Name y q2] kt q3] X.env := by rfl) (hpl : (backTo pos (starEach [.Tuple [.Name x q1, .Name y q2] kt q3] X.env)).any (·.1) = false := by rfl)
    (he2 : starEach [.Tuple [.Name x q1, .Name y q2] kt q3] X.env = (false, eval (.Tuple [.Name x q1, .Name y q2] kt q3) X.env) :: starEach [] X.env := by rfl)
    (he3 : starEach [.Name x q1, .Name y q2] X.env = (false, eval (.Name x q1) X.env) :: starEach [.Name y q2] X.env := by rfl) (he4 : starEach [.Name y q2] X.env = (false, eval (.Name y q2) X.env) :: starEach [] X.env := by rfl) :
    DE X A B E (.Call (.Name "isinstance" p) [e, .Tuple [.Name x q1, .Name y q2] kt q3] [] pos) (ev1 (gIsi [t1, t2]) fa) :=
  PE.imp (pe_callB call_isiT hg hm (by with_unfolding_all rfl) (pa_cons ha (pa_cons (pe_tup (pa_cons (pe_bltn (v := .ty t1.nm) hg2 hm2 hv2 rfl hn hdb) (pa_cons (pe_bltn (v := .ty t2.nm) hg3 hm3 hv3 rfl hn3 hdb3) pa_nil he4) he3)) pa_nil he2) he) (by decide) (by decide) he hpl) fun σ H Q ⟨Hb, c, s, q⟩ => by
    show rdE A B E fa σ H fun v H1 => ([V.ty t1.nm, .ty t2.nm] : List V).length ≤ sizeLine ∧ ∀ p, H1 p = none → rIsiT X.K [v, .ref p] (upd H1 p (.tup [.ty t1.nm, .ty t2.nm])) Q
    refine rd_then s q fun k d c1 v Hb1 H1 _ s1 tt r1 q1 => ⟨by rw [sizeLine_eq]; show 2 ≤ _; decide, fun p hp => ?_⟩
    have hh : ∃ b, isTs [t1, t2] d = some b ∧ EPost A B E Hb1 H1 σ Q (.ok .st (.bl b) c1) := by
      unfold gIsi at q1
      cases e : isTs [t1, t2] d with
      | none => rw [e] at q1; exact q1.elim
      | some b => rw [e] at q1; exact ⟨b, rfl, q1⟩
    obtain ⟨b, e1, q2⟩ := hh
    have hz : ∃ z, isT t1 d = some z := by
      unfold isTs at e1
      cases e : isT t1 d with
      | none => rw [e] at e1; cases e1
      | some z => exact ⟨z, rfl⟩
    obtain ⟨z, hz⟩ := hz
    have s2 := s1.new (o := .tup [.ty t1.nm, .ty t2.nm]) hp
    have st : Stp A Hb1 H1 Hb1 (upd H1 p (.tup [.ty t1.nm, .ty t2.nm])) := ⟨Same.refl _, .of (same_upd hp)⟩
    obtain ⟨T, h1, h2⟩ := tyX_of (X := X) s2.same (r1.o.mono st) hz
    exact ⟨v, p, _, T, _, b, rfl, upd_same, .cons (.ty _) (.cons (.ty _) .nil), h1, kitAnyT h2 e1, q2 _ _ _ s2 st rk_bl⟩
/-! ### pop -/
theorem RepL.erase : ∀ {ds : List D} {xs : List V} (n : Nat), RepL A H ds xs → RepL A H (ds.eraseIdx n) (xs.eraseIdx n)
  | [], xs, n, h => by rw [repL_nil.mp h]; exact RepL.nil
  | d :: ds, xs, 0, h => by
    obtain ⟨x, r, rfl, hx, t⟩ := repL_cons.mp h
    exact t
  | d :: ds, xs, n + 1, h => by
    obtain ⟨x, r, rfl, hx, t⟩ := repL_cons.mp h
    exact RepL.cons hx (RepL.erase n t)
theorem ixN_pop {n m : Nat} {i : Int} (h : (if n ≤ big then ixN n i else none) = some m) : -(2 ^ 63) ≤ i ∧ i < 2 ^ 63 ∧ seqIndex? i n = some m := by
  split at h
  · rename_i hn
    obtain ⟨h1, h2, h3, h4⟩ := ixN_seq h
    unfold big at hn
    exact ⟨by omega, by omega, h1⟩
  · cases h
/-- the item that pop(e) takes, and what stays -/
def popAt (j : Nat) (d : D) (c : Cfg) : Option (D × Cfg) := match d, ownL c j with
  | .int k, some ds => match (if ds.length ≤ big then ixN ds.length k else none) with
    | some m => match ds[m]? with
      | some e => some (e, c.put j (some (true, .lst (ds.eraseIdx m))))
      | none => none
    | none => none
  | _, _ => none
def sPopAt (j : Nat) (fe : EF) (K : D → Cfg → SR) : SF := fun c => if (ownL c j).isSome then (fe c).toS (fun _ d c1 => match popAt j d c1 with
  | some (e, c2) => K e c2
  | none => .bad) else .bad
theorem rd_popAt {j : Nat} {K : D → Cfg → SR} {Q : VK} (s : Sr A B Hb H σ c) (q : SPost A B E Hb De (sPopAt j fa K c))
    (n : ∀ (e : D) (c2 : Cfg) (x : V) (Hb1 H1 : Hp), Sr A B Hb1 H1 σ c2 → Rep A Hb1 e x → Same Hb Hb1 → SPost A B E Hb1 De (K e c2) → Q x H1) :
    tBM X.K "list" rPopAt (tVar j) (tCons (rdE A B E fa) tNil) σ H Q := by
  unfold sPopAt at q
  split at q
  · rename_i ho
    obtain ⟨ds0, e0⟩ := Option.isSome_iff_exists.mp ho
    obtain ⟨a, xs0, h1, h2, _⟩ := own_at s (ownL_eq e0)
    refine ⟨_, h1, Or.inl ⟨rfl, _, Or.inl (Or.inl h2)⟩, ?_⟩
    show rdE A B E fa σ H fun x H1 => rPopAt (V.ref a) [x] H1 Q
    refine rs_then s q fun k d c1 v Hb1 H1 _ s1 t1 k1 q1 => ?_
    unfold popAt at q1
    cases d with
    | int i =>
      cases eo : ownL c1 j with
      | none => rw [eo] at q1; exact q1.elim
      | some ds =>
        rw [eo] at q1
        dsimp only at q1
        cases em : (if ds.length ≤ big then ixN ds.length i else none) with
        | none => rw [em] at q1; exact q1.elim
        | some m =>
          rw [em] at q1
          dsimp only at q1
          cases ey : ds[m]? with
          | none => rw [ey] at q1; exact q1.elim
          | some y =>
            rw [ey] at q1
            obtain ⟨a', xs, g1, g2, g3⟩ := own_at s1 (ownL_eq eo)
            rw [h1] at g1
            cases g1
            obtain ⟨x, hx, rx⟩ := g3.get ey
            have hr := ixN_pop em
            refine ⟨a, xs, i, m, x, rfl, by rw [k1.o.int], g2, hr.1, hr.2.1, by rw [← g3.len]; exact hr.2.2, hx, ?_⟩
            exact n y _ x Hb1 _ (s1.mut (ownL_eq eo) a h1 (g3.erase m)) rx t1.b q1
    | _ => exact q1.elim
  · exact q.elim
/-- x_i = x_j.pop(e) -/
theorem ds_setPop {i j : Nat} {st : Stmt} (h : PS X st (tAsg (tBM X.K "list" rPopAt (tVar j) (tCons (rdE A B E fa) tNil)) (gName i))) : DS X A B E st (sPopAt j fa fun e c => putK i .st e c) := PS.imp h fun D σ H ⟨Hb, c, s, q⟩ => by
  show tBM X.K "list" rPopAt (tVar j) (tCons (rdE A B E fa) tNil) σ H fun x H1 => D.nx (σ.set i (some x)) H1
  exact rd_popAt s q fun e c2 x Hb1 H1 s1 r1 _ q1 => s1.putK (k := .st) r1 q1
/-- x_i.append(x_j.pop(e)) -/
def sAppPop (i j : Nat) (fe : EF) : SF := fun c => if (ownL c i).isSome then sPopAt j fe (fun e c1 => match ownL c1 i with
    | some ds => if ds.length < big then .nx (c1.put i (some (true, .lst (ds ++ [e])))) else .bad
    | none => .bad) c else .bad
theorem ds_appPop {i j : Nat} {st : Stmt} (h : PS X st (tDrop (tBM X.K "list" rAppend (tVar i) (tCons (tBM X.K "list" rPopAt (tVar j) (tCons (rdE A B E fa) tNil)) tNil)))) : DS X A B E st (sAppPop i j fa) := PS.imp h fun D σ H ⟨Hb, c, s, q⟩ => by
  unfold sAppPop at q
  split at q
  · rename_i ho
    obtain ⟨ds0, e0⟩ := Option.isSome_iff_exists.mp ho
    obtain ⟨a, xs0, h1, h2, _⟩ := own_at s (ownL_eq e0)
    refine ⟨_, h1, Or.inl ⟨rfl, _, Or.inl (Or.inl h2)⟩, ?_⟩
    show tBM X.K "list" rPopAt (tVar j) (tCons (rdE A B E fa) tNil) σ H fun x H1 => rAppend (V.ref a) [x] H1 fun _ H2 => D.nx σ H2
    refine rd_popAt s q fun e c2 x Hb1 H1 s1 r1 e1 q1 => ?_
    split at q1
    · rename_i ds e2
      split at q1
      · rename_i hl
        obtain ⟨a', xs, g1, g2, g3⟩ := own_at s1 (ownL_eq e2)
        rw [h1] at g1
        cases g1
        refine ⟨a, xs, x, rfl, rfl, g2, ?_, ?_⟩
        · rw [← g3.len]
          exact Nat.lt_of_lt_of_le hl (by rw [sizeLine_eq]; decide)
        · exact q1 _ _ _ (Same.refl _) (s1.mut (ownL_eq e2) a h1 (g3.append (RepL.cons r1 RepL.nil)))
      · exact q1.elim
    · exact q1.elim
  · exact q.elim
end
end DL
namespace DL
open PySem PySem.Spec PyProof.Rows L2
section
variable {X : Cx} {A : Am} {B : Bs} {E : XS} {Hb H Hb1 H1 : Hp} {σ : List (Option V)} {c c1 : Cfg} {fa fb fc ft fe : EF} {f g : SF} {De : Ends} {ga gb : AF}
/-! ### what is never reached -/
def sBad : SF := fun _ => .bad
def evBad : EF := fun _ => .bad
theorem ds_bad {st : Stmt} : DS X A B E st sBad := ⟨fun _ _ _ _ _ _ ⟨_, _, _, q⟩ => q.elim⟩
theorem dss_bad {st : List Stmt} : DSs X A B E st sBad := ⟨fun _ _ _ _ _ _ ⟨_, _, _, q⟩ => q.elim⟩
theorem de_bad {e : Expr} : DE X A B E e evBad := ⟨fun _ _ _ _ _ _ ⟨_, _, _, q⟩ => q.elim⟩
/-! ### is True -/
def gIsB : D → D → Option (Kd × D)
  | .bl a, .bl b => some (.st, .bl (decide (a = b)))
  | _, _ => none
theorem od_isB : OpD X A (compareOp .Is) gIsB := by
  refine ⟨_, op_is_bl, fun B Hb H σ c da db x y k d Q s hx hy e q => ?_⟩
  cases da with
  | bl a =>
    cases db with
    | bl b =>
      cases e
      exact ⟨a, b, hx.bl, hy.bl, q _ Hb H s .refl rk_bl⟩
    | _ => cases e
  | _ => cases e
/-! ### in, of a list -/
def anyEq (d : D) : List D → Option Bool
  | [] => some false
  | e :: es => match eqD e d, anyEq d es with
    | some b, some r => some (b || r)
    | _, _ => none
def inD (d : D) : D → Option Bool
  | .lst ds => match (D.lst ds).py, d.py with
    | some p, some q => if SeqAt.shaped p && SeqAt.shaped q then (match p with | .list ps => some (ps.any fun z => PyData.eqv z q) | _ => none) else none
    | _, _ => none
  | _ => none
def gIn (a b : D) : Option (Kd × D) := (inD a b).map fun t => (.st, .bl t)
def gNotIn (a b : D) : Option (Kd × D) := (inD a b).map fun t => (.st, .bl (!t))
theorem inD_inv {a b : D} {t : Bool} (h : inD a b = some t) : ∃ ds ps q, b = .lst ds ∧ b.py = some (.list ps) ∧ a.py = some q ∧ SeqAt.shaped (.list ps) = true ∧ SeqAt.shaped q = true ∧ t = ps.any fun z => PyData.eqv z q := by
  unfold inD at h
  split at h
  · rename_i ds
    split at h
    · rename_i p q e1 e2
      split at h
      · rename_i hs
        rw [Bool.and_eq_true] at hs
        split at h
        · rename_i ps
          cases h
          exact ⟨ds, ps, q, rfl, e1, e2, hs.1, hs.2, rfl⟩
        · cases h
      · cases h
    · cases h
  · cases h
theorem od_in (hK : X.K = A.K) (hu : X.A.units + 65 < cLine) : OpD X A (compareOp .In) gIn := by
  refine ⟨_, op_inD hu, fun B Hb H σ c da db x y k d Q s hx hy e q => ?_⟩
  unfold gIn at e
  cases he : inD da db with
  | none => rw [he] at e; cases e
  | some t =>
    rw [he] at e
    cases e
    obtain ⟨ds, ps, p, rfl, e1, e2, h1, h2, rfl⟩ := inD_inv he
    refine ⟨p, ps, ?_, ?_, h2, h1, q _ Hb H s .refl rk_bl⟩
    · rw [hK]; exact (hx.whole s.same).dp _ _ _ e2
    · rw [hK]; exact (hy.whole s.same).dp _ _ _ e1
theorem od_notIn (hK : X.K = A.K) (hu : X.A.units + 65 < cLine) : OpD X A (compareOp .NotIn) gNotIn := by
  refine ⟨_, op_notInD hu, fun B Hb H σ c da db x y k d Q s hx hy e q => ?_⟩
  unfold gNotIn at e
  cases he : inD da db with
  | none => rw [he] at e; cases e
  | some t =>
    rw [he] at e
    cases e
    obtain ⟨ds, ps, p, rfl, e1, e2, h1, h2, rfl⟩ := inD_inv he
    refine ⟨p, ps, ?_, ?_, h2, h1, q _ Hb H s .refl rk_bl⟩
    · rw [hK]; exact (hx.whole s.same).dp _ _ _ e2
    · rw [hK]; exact (hy.whole s.same).dp _ _ _ e1
/-! ### repr of what is no object -/
def gRep0 : D → Option (Kd × D)
  | .non => some (.st, .str "None")
  | .bl b => some (.st, .str (if b then "True" else "False"))
  | .int i => if i.natAbs.log2 < 1920 then some (.st, .str (toString i)) else none
  | _ => none
def rRep0 : List V → Hp → VK → Prop := fun xs H Q => ∃ x, xs = [x] ∧ ((x = .non ∧ Q (.str "None") H) ∨ (∃ b, x = .bl b ∧ Q (.str (if b then "True" else "False")) H) ∨ ∃ i : Int, x = .int i ∧ i.natAbs.log2 < 1920 ∧ Q (.str (toString i)) H)
theorem call_rep0 : CallR X (.builtin "repr") rRep0 := by
  intro pins s σ H xs us Q I r h
  obtain ⟨x, rfl, h⟩ := h
  obtain ⟨u, rfl, ru⟩ := r.one
  rcases h with ⟨rfl, q⟩ | ⟨b, rfl, q⟩ | ⟨i, rfl, hl, q⟩
  · obtain rfl : u = Value.none := ru
    exact PySem.P.repr_of_none ⟨.str "None", H, I.tok _, ⟨_, rfl⟩, q⟩
  · obtain rfl : u = Value.bool b := ru
    exact PySem.P.repr_of_bool ⟨.str (if b then "True" else "False"), H, I.tok _, ⟨_, rfl⟩, q⟩
  · obtain ⟨t, rfl⟩ := ru
    exact PySem.P.repr_of_int hl ⟨.str (toString i), H, I.tok _, ⟨_, rfl⟩, q⟩
theorem cd_rep0 : CaD1 X A (.builtin "repr") gRep0 := by
  refine ⟨_, call_rep0, fun B Hb H σ c da x k d Q s hx e q => ?_⟩
  cases da with
  | non =>
    cases e
    exact ⟨x, rfl, .inl ⟨hx.non, q _ Hb H s .refl rk_str⟩⟩
  | bl b =>
    cases e
    exact ⟨x, rfl, .inr (.inl ⟨b, hx.bl, q _ Hb H s .refl rk_str⟩)⟩
  | int i =>
    unfold gRep0 at e
    dsimp only at e
    split at e
    · rename_i hl
      cases e
      exact ⟨x, rfl, .inr (.inr ⟨i, hx.int, hl, q _ Hb H s .refl rk_str⟩)⟩
    · cases e
  | _ => cases e
/-! ### sorted(set(e)), e a tuple of ints -/
def intsD : List D → Option (List Int)
  | [] => some []
  | .int i :: ds => (intsD ds).map (i :: ·)
  | _ :: _ => none
theorem intsD_eq : ∀ {ds : List D} {ns : List Int}, intsD ds = some ns → ds = ns.map D.int
  | [], ns, h => by cases h; rfl
  | d :: ds, ns, h => by
    unfold intsD at h
    split at h
    · rename_i h0; cases h0
    · rename_i i es h0
      cases h0
      cases e : intsD ds with
      | none => rw [e] at h; cases h
      | some ms =>
        rw [e] at h
        cases h
        rw [intsD_eq e]
        rfl
    · cases h
def insN (i : Int) : List Int → List Int
  | [] => [i]
  | j :: js => if i < j then i :: j :: js else if i = j then j :: js else j :: insN i js
/-- in order, each once -/
def sortN : List Int → List Int
  | [] => []
  | i :: is => insN i (sortN is)
theorem insN_mem {i k : Int} : ∀ {js : List Int}, k ∈ insN i js ↔ k = i ∨ k ∈ js
  | [] => by unfold insN; simp
  | j :: js => by
    unfold insN
    split
    · simp
    · split
      · rename_i h1 h2
        subst h2
        simp
      · rw [List.mem_cons, insN_mem, List.mem_cons]
        constructor
        · rintro (h | h | h)
          · exact .inr (.inl h)
          · exact .inl h
          · exact .inr (.inr h)
        · rintro (h | h | h)
          · exact .inr (.inl h)
          · exact .inl h
          · exact .inr (.inr h)
theorem insN_lt {i : Int} : ∀ {js : List Int}, js.Pairwise (· < ·) → (insN i js).Pairwise (· < ·)
  | [], _ => by unfold insN; simp
  | j :: js, h => by
    rw [List.pairwise_cons] at h
    unfold insN
    split
    · rename_i h1
      rw [List.pairwise_cons, List.pairwise_cons]
      refine ⟨fun k hk => ?_, h⟩
      rcases List.mem_cons.mp hk with e | e
      · rw [e]; exact h1
      · exact Int.lt_trans h1 (h.1 k e)
    · split
      · rw [List.pairwise_cons]; exact h
      · rename_i h1 h2
        rw [List.pairwise_cons]
        refine ⟨fun k hk => ?_, insN_lt h.2⟩
        rcases insN_mem.mp hk with e | e
        · rw [e]; omega
        · exact h.1 k e
theorem sortN_lt : ∀ ns : List Int, (sortN ns).Pairwise (· < ·)
  | [] => List.Pairwise.nil
  | n :: ns => insN_lt (sortN_lt ns)
theorem sortN_mem {k : Int} : ∀ {ns : List Int}, k ∈ sortN ns ↔ k ∈ ns
  | [] => Iff.rfl
  | n :: ns => by
    show k ∈ insN n (sortN ns) ↔ _
    rw [insN_mem, sortN_mem, List.mem_cons]
/-- two rising lists of the same members are one -/
theorem rise_eq : ∀ {as bs : List Int}, as.Pairwise (· < ·) → bs.Pairwise (· < ·) → (∀ k, k ∈ as ↔ k ∈ bs) → as = bs
  | [], [], _, _, _ => rfl
  | [], b :: bs, _, _, h => absurd ((h b).mpr List.mem_cons_self) List.not_mem_nil
  | a :: as, [], _, _, h => absurd ((h a).mp List.mem_cons_self) List.not_mem_nil
  | a :: as, b :: bs, ha, hb, h => by
    rw [List.pairwise_cons] at ha hb
    have e : a = b := by
      rcases List.mem_cons.mp ((h a).mp List.mem_cons_self) with z | z
      · exact z
      · rcases List.mem_cons.mp ((h b).mpr List.mem_cons_self) with y | y
        · exact y.symm
        · have := hb.1 a z
          have := ha.1 b y
          omega
    subst e
    rw [rise_eq ha.2 hb.2 fun k => ?_]
    constructor
    · intro hk
      rcases List.mem_cons.mp ((h k).mp (List.mem_cons_of_mem _ hk)) with z | z
      · have := ha.1 k hk; omega
      · exact z
    · intro hk
      rcases List.mem_cons.mp ((h k).mpr (List.mem_cons_of_mem _ hk)) with z | z
      · have := hb.1 k hk; omega
      · exact z
def rSetTI (w : World) : List V → Hp → VK → Prop := fun xs H Q => ∃ (a : Addr) (ns : List Int), xs = [.ref a] ∧ H a = some (.tup (ns.map V.int)) ∧ ns.length < 63 ∧ ∀ (p : Addr) (n : Nat), n ≤ ns.length → H p = none → Q (.ref p) (upd H p (SetO w p (fun j => decide (j ∈ ns)) n))
theorem cr_setTI (hc : X.calm = true) : CallR X (.type "set") (rSetTI X.w) := by
  intro pins s σ H xs us Q I r h
  obtain ⟨a, ns, rfl, ha, hl, q⟩ := h
  obtain ⟨u, rfl, ru⟩ := r.one
  obtain rfl : u = Value.ref a := ru
  obtain ⟨_, its, rv, ht⟩ := I.hok a _ ha
  have ht' : s.heap.IsTuple a its.toArray := ht
  refine call_set_tupI ns (I.ok.hd hc) ht' (Vals.ints rv) (by show ns.length + 1 < scanBound; exact Nat.lt_of_lt_of_le (Nat.succ_lt_succ hl) (by decide)) fun h' tk n R hn k => ?_
  have hp : H s.heap.objs.size = none := I.hok.fresh (Nat.le_refl _)
  exact ⟨.ref _, _, I.laid (t' := tk) k (Nat.le_refl _) (setO_new R), rfl, q _ n hn hp⟩
def gSortSet : D → Option (Kd × D)
  | .tup ds => match intsD ds with
    | some ns => if ns.length < 63 then some (.fr, .lst ((sortN ns).map D.int)) else none
    | none => none
  | _ => none
theorem repL_ints {ns : List Int} {xs : List V} (h : RepL A Hb (ns.map D.int) xs) : xs = ns.map V.int := h.ints
theorem de_sortSet {p p2 pos pos2 : Pos} {e : Expr} (hc : X.calm = true) (hg : Gl X "sorted") (hm : X.mg "sorted" = none) (hv : bootBuiltins "sorted" = some (.builtin "sorted")) (hg2 : Gl X "set") (hm2 : X.mg "set" = none) (hv2 : bootBuiltins "set" = some (.type "set")) (ha : DE X A B E e fa)
    (he : starEach [e] X.env = (false, eval e X.env) :: starEach [] X.env := by rfl) (hpl : (backTo pos2 (starEach [] X.env)).any (·.1) = false := by rfl)
    (he2 : starEach [.Call (.Name "set" p2) [e] [] pos2] X.env = (false, eval (.Call (.Name "set" p2) [e] [] pos2) X.env) :: starEach [] X.env := by rfl) (hpl2 : (backTo pos (starEach [] X.env)).any (·.1) = false := by rfl) :
    DE X A B E (.Call (.Name "sorted" p) [.Call (.Name "set" p2) [e] [] pos2] [] pos) (ev1 gSortSet fa) :=
  PE.imp (pe_callB (cr_sortedSet hc) hg hm hv (pa_cons (pe_callTy (cr_setTI hc) hg2 hm2 hv2 (pa_cons ha pa_nil he) (by decide) (by decide) he hpl) pa_nil he2) (by decide) (by decide) he2 hpl2) fun σ H Q ⟨Hb, c, s, q⟩ => by
    show rdE A B E fa σ H fun v H1 => rSetTI X.w [v] H1 fun z H2 => rSortedSet X.w [z] H2 Q
    refine rd_then s q fun k d c1 v Hb1 H1 _ s1 t1 k1 q1 => ?_
    cases d with
    | tup ds =>
      unfold gSortSet at q1
      dsimp only at q1
      cases ei : intsD ds with
      | none => rw [ei] at q1; exact q1.elim
      | some ns =>
        rw [ei] at q1
        dsimp only at q1
        split at q1
        · rename_i hl
          obtain ⟨a, xs, rfl, h1, h2⟩ := k1.o.tup
          rw [intsD_eq ei] at h2
          have e2 := h2.ints
          subst e2
          refine ⟨a, ns, rfl, s1.same _ _ h1, hl, fun p n hn hp => ?_⟩
          have s2 := s1.new (o := SetO X.w p (fun j => decide (j ∈ ns)) n) hp
          have st : Stp A Hb1 H1 Hb1 (upd H1 p (SetO X.w p (fun j => decide (j ∈ ns)) n)) := ⟨Same.refl _, .of (same_upd hp)⟩
          refine ⟨p, _, n, rfl, upd_same, Nat.lt_of_le_of_lt hn (Nat.lt_of_lt_of_le hl (by decide)), fun ms p2 h3 h4 _ hp2 => ?_⟩
          have em : ms = sortN ns := rise_eq h3 (sortN_lt ns) fun k => by
            rw [h4, sortN_mem]
            simp
          subst em
          obtain ⟨s4, t4, r4⟩ := s2.newLst hp2 (RepL.of_ints (A := A) (H := Hb1) (sortN ns))
          exact q1 _ _ _ s4 (st.trans t4) r4
        · exact q1.elim
    | _ => exact q1.elim
/-! ### e[::-1] -/
def gRevL : D → Option (Kd × D)
  | .lst ds => some (.fr, .lst ds.reverse)
  | _ => none
theorem de_revL {e : Expr} {k : Nat} {p1 p2 p3 pos : Pos} (hK : X.K = A.K) (ha : DE X A B E e fa) : DE X A B E (.Subscript e (.Slice none none (some (.UnaryOp .USub (.Constant (.int 1) k p1) p2)) p3) pos) (ev1 gRevL fa) :=
  PE.imp (pe_revL ha) fun σ H Q ⟨Hb, c, s, q⟩ => by
    show rdE A B E fa σ H _
    refine rd_then s q fun k d c1 v Hb1 H1 _ s1 t1 k1 q1 => ?_
    cases d with
    | lst ds =>
      obtain ⟨a, xs, rfl, h1, h2⟩ := k1.o.lst s1.same
      refine ⟨a, xs, rfl, SqL.of h1, fun p hp => ?_⟩
      obtain ⟨s4, t4, r4⟩ := s1.newLst hp h2.reverse
      exact q1 _ _ _ s4 t4 r4
    | _ => exact q1.elim
end
end DL
namespace DL
open PySem PySem.Spec PyProof.Rows L2
section
variable {X : Cx} {A : Am} {B : Bs} {E : XS} {Hb H Hb1 H1 : Hp} {σ : List (Option V)} {c c1 : Cfg} {fa fb fc ft fe : EF} {f g : SF} {De : Ends} {ga gb : AF}
/-! ### the deal: a list of a list of cells and a blend, of which none but the four words below know -/
def isDeal (c : Cfg) (i : Nat) : Bool := match c.r[i]? with
  | some (some (false, .deal)) => true
  | _ => false
structure DealAt (A : Am) (Hb H : Hp) (σ : List (Option V)) (W : Wd) (i : Nat) (w : Addr × Addr) : Prop where
  ws : A.ws = some w
  at_ : σ[i]? = some (some (V.ref w.1))
  h1 : H w.1 = some (.lst [.ref w.2, .int W.2])
  h2 : H w.2 = some (.lst (W.1.map V.int))
  b1 : Hb w.1 = none
  b2 : Hb w.2 = none
  ne : w.1 ≠ w.2
theorem deal_at {i : Nat} (s : Sr A B Hb H σ c) (h : isDeal c i = true) : ∃ w, DealAt A Hb H σ c.W i w := by
  unfold isDeal at h
  split at h
  · rename_i e
    obtain ⟨v, h1, h2⟩ := s.sh i .deal e
    unfold Rep at h2
    obtain ⟨w, h3, rfl⟩ := h2
    obtain ⟨g1, g2, g3, g4, g5⟩ := s.fin.hr.w w h3
    exact ⟨w, h3, h1, g1, g2, g3, g4, g5⟩
  · cases h
theorem DealAt.later {i : Nat} {w : Addr × Addr} {W : Wd} (d : DealAt A Hb H σ W i w) (s : Sr A B Hb1 H1 σ c) : DealAt A Hb1 H1 σ c.W i w := by
  obtain ⟨g1, g2, g3, g4, g5⟩ := s.fin.hr.w w d.ws
  exact ⟨d.ws, d.at_, g1, g2, g3, g4, g5⟩
/-- one of the deal's two lists is changed -/
theorem Sr.dealt {p : Addr} {xs ys : List V} {W' : Wd} (s : Sr A B Hb H σ c) (hp : A.dl p) (hl : H p = some (.lst xs)) (hb : Hb p = none) (hw : WOk A Hb (upd H p (.lst ys)) W') : Sr A B Hb (upd H p (.lst ys)) σ ⟨c.r, W'⟩ := by
  refine ⟨⟨⟨fun q u e => ?_, s.fin.hr.notb, hw, tabs_upd s.fin.hr.tabs hl⟩, s.fin.b0, ⟨fun q u e n0 => ?_, fun q u e n t => ?_⟩, s.fin.nb⟩, s.len, s.sh, fun i d h => ?_, s.sep, fun q h => ?_⟩
  · rw [upd_ne (ne_of_none e hb)]
    exact s.fin.hr.same q u e
  · by_cases hq : q = p
    · subst hq; exact ⟨_, upd_same, fun _ z => by cases z⟩
    · rw [upd_ne hq]; exact s.fin.kp.it q u e n0
  · have : q ≠ p := fun z => n (by rw [z]; exact hp)
    rw [upd_ne this]
    exact s.fin.kp.eq q u e n t
  · obtain ⟨a, o, g1, g2, g3, g4, g5, g6⟩ := s.ow i d h
    have : a ≠ p := fun z => g5 (by rw [z]; exact hp)
    exact ⟨a, o, g1, by rw [upd_ne this]; exact g2, g3, g4, g5, g6⟩
  · obtain ⟨⟨u, g1, g0⟩, g2, g3⟩ := s.pr q h
    by_cases hq : q = p
    · subst hq; exact ⟨⟨_, upd_same, fun _ z => by cases z⟩, g2, g3⟩
    · exact ⟨⟨u, by rw [upd_ne hq]; exact g1, g0⟩, g2, g3⟩
theorem Sr.cells {i : Nat} {w : Addr × Addr} (s : Sr A B Hb H σ c) (d : DealAt A Hb H σ c.W i w) (ns : List Int) : Sr A B Hb (upd H w.2 (.lst (ns.map V.int))) σ ⟨c.r, (ns, c.W.2)⟩ :=
  s.dealt ⟨w, d.ws, .inr rfl⟩ d.h2 d.b2 fun w' e => by
    rw [d.ws] at e
    cases e
    exact ⟨by rw [upd_ne d.ne]; exact d.h1, upd_same, d.b1, d.b2, d.ne⟩
theorem Sr.blend {i : Nat} {w : Addr × Addr} (s : Sr A B Hb H σ c) (d : DealAt A Hb H σ c.W i w) (b : Int) : Sr A B Hb (upd H w.1 (.lst [.ref w.2, .int b])) σ ⟨c.r, (c.W.1, b)⟩ :=
  s.dealt ⟨w, d.ws, .inl rfl⟩ d.h1 d.b1 fun w' e => by
    rw [d.ws] at e
    cases e
    exact ⟨upd_same, by rw [upd_ne (Ne.symm d.ne)]; exact d.h2, d.b1, d.b2, d.ne⟩
theorem stp_dl {p : Addr} {o o' : HO} (hp : A.dl p) (h : H p = some o) (nt : NT o' := by intro _ z; cases z) : Stp A Hb H Hb (upd H p o') := ⟨Same.refl _, ⟨fun q u e n0 => by
    by_cases hq : q = p
    · subst hq; exact ⟨_, upd_same, nt⟩
    · exact ⟨u, by rw [upd_ne hq]; exact e, n0⟩, fun q u e n t => by
    have : q ≠ p := fun z => n (by rw [z]; exact hp)
    rw [upd_ne this]
    exact e⟩⟩
/-- deal[0] -/
def rd0 (K : PySem.W.Frag) (i : Nat) : TE := tOp (rIxL K) (tVar i) (tC (.int 0))
theorem rd0_of {K : PySem.W.Frag} {i : Nat} {w : Addr × Addr} {W : Wd} {Q : VK} (d : DealAt A Hb H σ W i w) (q : Q (.ref w.2) H) : rd0 K i σ H Q :=
  ⟨_, d.at_, w.1, _, 0, .ref w.2, rfl, rfl, SqL.of d.h1, rfl, q⟩
/-- deal[0] != [] -/
def evD0ne (i : Nat) : EF := fun c => if isDeal c i then .ok .st (.bl (!c.W.1.isEmpty)) c else .bad
theorem dp_ints {K : PySem.W.Frag} : ∀ ns : List Int, DpAll K H (ns.map V.int) (ns.map PyData.int)
  | [] => .nil
  | n :: ns => .cons (.int n) (dp_ints ns)
theorem shaped_ints (ns : List Int) : SeqAt.shaped (.list (ns.map PyData.int)) = true := by
  have h1 : ∀ ns : List Int, PyData.canLayAll0 (ns.map PyData.int) = true := fun ns => by
    induction ns with
    | nil => rfl
    | cons n ns ih => simp [PyData.canLayAll0, PyData.canLay0, ih]
  have h2 : ∀ ns : List Int, PyData.depthAll (ns.map PyData.int) = 0 := fun ns => by
    induction ns with
    | nil => rfl
    | cons n ns ih => simp [PyData.depthAll, PyData.depth, ih]
  unfold SeqAt.shaped
  rw [show PyData.canLay0 (.list (ns.map PyData.int)) = PyData.canLayAll0 (ns.map PyData.int) by simp only [PyData.canLay0], h1]
  rw [show PyData.depth (.list (ns.map PyData.int)) = PyData.depthAll (ns.map PyData.int) + 1 by simp only [PyData.depth], h2]
  rfl
theorem dt_d0ne {i : Nat} {e : Expr} (h : PT X e (tTest (tOp (rNeD X.K) (rd0 X.K i) (tLst tNil)))) : DT X A B E e (evD0ne i) := PT.imp h fun σ H Q ⟨Hb, c, s, q⟩ => by
  unfold evD0ne at q
  split at q
  · rename_i hd
    obtain ⟨w, d⟩ := deal_at s hd
    obtain ⟨b, e, g⟩ := q
    cases e
    refine rd0_of d ⟨by show 0 ≤ _; exact Nat.zero_le _, fun p hp => ?_⟩
    have s2 := s.new (o := .lst []) hp
    have d2 := d.later s2
    refine ⟨_, _, ?_, ?_, shaped_ints c.W.1, shaped_ints [], ?_⟩
    · exact .lst (SqL.of d2.h2) (dp_ints c.W.1)
    · exact .lst (xs := []) (SqL.of upd_same) .nil
    · refine ⟨_, rfl, ?_⟩
      have : (!PyData.eqv (.list (c.W.1.map PyData.int)) (.list (([] : List Int).map PyData.int))) = !c.W.1.isEmpty := by
        cases c.W.1 <;> simp [PyData.eqv, PyData.eqvAll]
      rw [this]
      exact g Hb _ s2 ⟨Same.refl _, .of (same_upd hp)⟩
  · exact q.elim
/-- the last of a list -/
def lastI (ns : List Int) : Option Int := ns[ns.length - 1]?
theorem lastI_at {ns : List Int} {n : Int} (h : lastI ns = some n) : L2.atI (ns.map V.int) (-1) = some (.int n) ∧ (ns.map V.int)[(ns.map V.int).length - 1]? = some (.int n) := by
  unfold lastI at h
  have hl : ns.length - 1 < ns.length := (List.getElem?_eq_some_iff.mp h).1
  have e2 : (ns.map V.int)[(ns.map V.int).length - 1]? = some (.int n) := by
    rw [List.length_map, List.getElem?_map, h]
    rfl
  refine ⟨?_, e2⟩
  unfold L2.atI L2.ixN
  rw [List.length_map, if_neg (by decide), if_pos (by omega)]
  show (ns.map V.int)[(-1 + (ns.length : Int)).toNat]? = _
  rw [show (-1 + (ns.length : Int)).toNat = ns.length - 1 by omega, List.getElem?_map, h]
  rfl
/-- deal[0][-1] == 0 -/
def evD0z (i : Nat) : EF := fun c => if isDeal c i then (match lastI c.W.1 with
  | some n => .ok .st (.bl (decide (n = 0))) c
  | none => .bad) else .bad
theorem dt_d0z {i : Nat} {e : Expr} (h : PT X e (tTest (tOp (rEqD X.K) (tOp (rIxL X.K) (rd0 X.K i) (tUn (rU fun i => .int (-i)) (tC (.int 1)))) (tC (.int 0))))) : DT X A B E e (evD0z i) := PT.imp h fun σ H Q ⟨Hb, c, s, q⟩ => by
  unfold evD0z at q
  split at q
  · rename_i hd
    obtain ⟨w, d⟩ := deal_at s hd
    split at q
    · rename_i n hn
      obtain ⟨b, e, g⟩ := q
      cases e
      obtain ⟨e1, e2⟩ := lastI_at hn
      refine rd0_of d ⟨1, rfl, w.2, _, -1, .int n, rfl, rfl, SqL.of d.h2, e1, .int n, .int 0, .int n, .int 0, rfl, rfl, _, rfl, ?_⟩
      have : PyData.eqv (.int n) (.int 0) = decide (n = 0) := by
        simp only [PyData.eqv]
        by_cases hz : n = 0 <;> simp [hz]
      rw [this]
      exact g Hb _ s .refl
    · exact q.elim
  · exact q.elim
/-- deal[0].pop() -/
def popW (c : Cfg) (i : Nat) (K : Int → Cfg → SR) : SR := if isDeal c i then (match lastI c.W.1 with
  | some n => K n ⟨c.r, (c.W.1.dropLast, c.W.2)⟩
  | none => .bad) else .bad
theorem rd_popW {i : Nat} {K : Int → Cfg → SR} {Q : VK} (s : Sr A B Hb H σ c) (q : SPost A B E Hb De (popW c i K))
    (n : ∀ (k : Int) (c2 : Cfg) (H1 : Hp), Sr A B Hb H1 σ c2 → SPost A B E Hb De (K k c2) → Q (.int k) H1) : tBM0 X.K "list" rPop (rd0 X.K i) σ H Q := by
  unfold popW at q
  split at q
  · rename_i hd
    obtain ⟨w, d⟩ := deal_at s hd
    split at q
    · rename_i k hk
      obtain ⟨e1, e2⟩ := lastI_at hk
      refine rd0_of d ⟨Or.inl ⟨rfl, _, SqL.of d.h2⟩, w.2, _, .int k, rfl, rfl, d.h2, e2, ?_⟩
      have e3 : (c.W.1.map V.int).dropLast = c.W.1.dropLast.map V.int := by rw [List.map_dropLast]
      rw [e3]
      exact n k _ _ (s.cells d c.W.1.dropLast) q
    · exact q.elim
  · exact q.elim
def sD0pop (i : Nat) : SF := fun c => popW c i fun _ c1 => .nx c1
theorem ds_d0pop {i : Nat} {st : Stmt} (h : PS X st (tDrop (tBM0 X.K "list" rPop (rd0 X.K i)))) : DS X A B E st (sD0pop i) := PS.imp h fun D σ H ⟨Hb, c, s, q⟩ => by
  show tBM0 X.K "list" rPop (rd0 X.K i) σ H fun _ H1 => D.nx σ H1
  exact rd_popW s q fun k c2 H1 s1 q1 => q1 σ Hb H1 (Same.refl _) s1
/-- x_j = int(deal[0].pop()) -/
def sD0popI (i j : Nat) : SF := fun c => popW c i fun n c1 => putK j .st (.int n) c1
theorem ds_d0popI {i j : Nat} {st : Stmt} (h : PS X st (tAsg (tCB (fun xs H Q => (∃ i, xs = [.int i] ∧ Q (.int i) H) ∨ ∃ k, xs = [.bl k] ∧ Q (.int (if k then 1 else 0)) H) (tCons (tBM0 X.K "list" rPop (rd0 X.K i)) tNil)) (gName j))) : DS X A B E st (sD0popI i j) := PS.imp h fun D σ H ⟨Hb, c, s, q⟩ => by
  show tBM0 X.K "list" rPop (rd0 X.K i) σ H fun x H1 => (∃ i, [x] = [V.int i] ∧ D.nx (σ.set j (some (.int i))) H1) ∨ ∃ k, [x] = [V.bl k] ∧ D.nx (σ.set j (some (.int (if k then 1 else 0)))) H1
  exact rd_popW s q fun k c2 H1 s1 q1 => .inl ⟨k, rfl, s1.putK (k := .st) (v := .int k) rk_int q1⟩
/-- deal[0].append(e) -/
def sD0app (i : Nat) (fe : EF) : SF := fun c => if isDeal c i then (fe c).toS (fun _ d c1 => match d with
  | .int n => if isDeal c1 i && decide (c1.W.1.length < big) then .nx ⟨c1.r, (c1.W.1 ++ [n], c1.W.2)⟩ else .bad
  | _ => .bad) else .bad
theorem ds_d0app {i : Nat} {st : Stmt} (h : PS X st (tDrop (tBM X.K "list" rAppend (rd0 X.K i) (tCons (rdE A B E fa) tNil)))) : DS X A B E st (sD0app i fa) := PS.imp h fun D σ H ⟨Hb, c, s, q⟩ => by
  unfold sD0app at q
  split at q
  · rename_i hd
    obtain ⟨w, d⟩ := deal_at s hd
    refine rd0_of d ⟨Or.inl ⟨rfl, _, SqL.of d.h2⟩, ?_⟩
    show rdE A B E fa σ H fun x H1 => rAppend (.ref w.2) [x] H1 fun _ H2 => D.nx σ H2
    refine rs_then s q fun k dd c1 v Hb1 H1 _ s1 t1 k1 q1 => ?_
    cases dd with
    | int n =>
      dsimp only at q1
      split at q1
      · rename_i hh
        rw [Bool.and_eq_true] at hh
        have d1 := d.later s1
        have hl : c1.W.1.length < big := of_decide_eq_true hh.2
        refine ⟨w.2, _, v, rfl, rfl, d1.h2, ?_, ?_⟩
        · rw [List.length_map]
          exact Nat.lt_of_lt_of_le hl (by rw [sizeLine_eq]; decide)
        · rw [k1.o.int]
          have e3 : c1.W.1.map V.int ++ [V.int n] = (c1.W.1 ++ [n]).map V.int := by rw [List.map_append]; rfl
          rw [e3]
          exact q1 σ Hb1 _ (Same.refl _) (s1.cells d1 (c1.W.1 ++ [n]))
      · exact q1.elim
    | _ => exact q1.elim
  · exact q.elim
/-- deal[1] -/
def evD1 (i : Nat) : EF := fun c => if isDeal c i then .ok .st (.int c.W.2) c else .bad
theorem de_d1 {i : Nat} {e : Expr} (h : PE X e (tOp (rIxL X.K) (tVar i) (tC (.int 1)))) : DE X A B E e (evD1 i) := PE.imp h fun σ H Q ⟨Hb, c, s, q⟩ => by
  unfold evD1 at q
  split at q
  · rename_i hd
    obtain ⟨w, d⟩ := deal_at s hd
    exact ⟨_, d.at_, w.1, _, 1, .int c.W.2, rfl, rfl, SqL.of d.h1, rfl, q _ Hb H s .refl rk_int⟩
  · exact q.elim
/-- deal[1] = e -/
def sD1 (i : Nat) (fe : EF) : SF := fun c => (fe c).toS fun _ d c1 => match d with
  | .int n => if isDeal c1 i then .nx ⟨c1.r, (c1.W.1, n)⟩ else .bad
  | _ => .bad
theorem ds_d1 {i : Nat} {st : Stmt} (h : PS X st (tAsg (rdE A B E fa) (gSub (tVar i) (tC (.int 1)) rSetL))) : DS X A B E st (sD1 i fa) := PS.imp h fun D σ H ⟨Hb, c, s, q⟩ => by
  show rdE A B E fa σ H _
  refine rs_then s q fun k dd c1 v Hb1 H1 _ s1 t1 k1 q1 => ?_
  cases dd with
  | int n =>
    dsimp only at q1
    split at q1
    · rename_i hd
      obtain ⟨w, d⟩ := deal_at s1 hd
      refine ⟨_, d.at_, w.1, _, 1, 1, rfl, rfl, d.h1, rfl, ?_⟩
      rw [k1.o.int]
      exact q1 σ Hb1 _ (Same.refl _) (s1.blend d n)
    · exact q1.elim
  | _ => exact q1.elim
end
end DL
namespace DL
open PySem PySem.Spec PyProof.Rows L2
section
variable {X : Cx} {A : Am} {B : Bs} {E : XS} {Hb H Hb1 H1 : Hp} {σ : List (Option V)} {c c1 : Cfg} {fa fb fc ft fe : EF} {f g : SF} {De : Ends} {ga gb : AF}
/-- no exception comes out of a block -/
theorem passE {X : Cx} : PassS X E0S := fun pins σ H s e s' I h => by
  obtain ⟨_, _, _, _, _, _, _, _, _, _, _, _, _, z⟩ := h
/-! ### list(range(e)), tuple(range(e)) -/
theorem repL_rng (lo : Int) (n : Nat) : RepL A Hb (rngD lo n) ((List.range n).map fun i : Nat => V.int (lo + (i : Int))) := by
  have z := RepL.of_ints (A := A) (H := Hb) ((List.range n).map fun i : Nat => lo + (i : Int))
  rw [List.map_map, List.map_map] at z
  exact z
def gLRg : D → Option (Kd × D)
  | .int j => if j ≤ big then some (.fr, .lst (rngD 0 j.toNat)) else none
  | _ => none
def gTRg : D → Option (Kd × D)
  | .int j => if j ≤ big then some (.st, .tup (rngD 0 j.toNat)) else none
  | _ => none
theorem rg_ok {j : Int} (h : j ≤ big) (h' : -(2 ^ 62) ≤ j) : RgOk 0 j := by
  unfold big at h
  unfold RgOk
  omega
def rOkL (j : Int) : Bool := decide (-(2 ^ 62) ≤ j)
def evLRg (fe : EF) : EF := fun c => (fe c).bind fun _ d c1 => match d with
  | .int j => if -(2 ^ 62) ≤ j then ofO c1 (gLRg d) else .bad
  | _ => .bad
def evTRg (fe : EF) : EF := fun c => (fe c).bind fun _ d c1 => match d with
  | .int j => if -(2 ^ 62) ≤ j then ofO c1 (gTRg d) else .bad
  | _ => .bad
theorem de_listRg {p p2 pos pos2 : Pos} {e : Expr} (hc : X.calm = true) (hg : Gl X "list") (hm : X.mg "list" = none) (hg2 : Gl X "range") (hm2 : X.mg "range" = none) (ha : DE X A B E e fa) (na : starEach [e] X.env = (false, eval e X.env) :: starEach [] X.env := by rfl)
    (na2 : starEach [.Call (.Name "range" p2) [e] [] pos2] X.env = (false, eval (.Call (.Name "range" p2) [e] [] pos2) X.env) :: starEach [] X.env := by rfl) : DE X A B E (.Call (.Name "list" p) [.Call (.Name "range" p2) [e] [] pos2] [] pos) (evLRg fa) :=
  PE.imp (pe_listRg hc hg hm (prg_1 hg2 hm2 ha na) na2) fun σ H Q ⟨Hb, c, s, q⟩ => by
    show rdE A B E fa σ H _
    refine rd_then s q fun k d c1 v Hb1 H1 _ s1 t1 k1 q1 => ?_
    cases d with
    | int j =>
      dsimp only at q1
      split at q1
      · rename_i h0
        unfold gLRg at q1
        dsimp only at q1
        split at q1
        · rename_i hj
          refine ⟨j, k1.o.int, rg_ok hj h0, fun p hp => ?_⟩
          have z := repL_rng (A := A) (Hb := Hb1) 0 j.toNat
          have e0 : rgV 0 j = (List.range j.toNat).map fun i : Nat => V.int (0 + (i : Int)) := by
            unfold rgV
            rw [Int.sub_zero]
          rw [e0]
          obtain ⟨s4, t4, r4⟩ := s1.newLst hp z
          exact q1 _ _ _ s4 t4 r4
        · exact q1.elim
      · exact q1.elim
    | _ => exact q1.elim
theorem de_tupRg {p p2 pos pos2 : Pos} {e : Expr} (hc : X.calm = true) (hg : Gl X "tuple") (hm : X.mg "tuple" = none) (hg2 : Gl X "range") (hm2 : X.mg "range" = none) (ha : DE X A B E e fa) (na : starEach [e] X.env = (false, eval e X.env) :: starEach [] X.env := by rfl)
    (na2 : starEach [.Call (.Name "range" p2) [e] [] pos2] X.env = (false, eval (.Call (.Name "range" p2) [e] [] pos2) X.env) :: starEach [] X.env := by rfl) : DE X A B E (.Call (.Name "tuple" p) [.Call (.Name "range" p2) [e] [] pos2] [] pos) (evTRg fa) :=
  PE.imp (pe_tupRg hc hg hm (prg_1 hg2 hm2 ha na) na2) fun σ H Q ⟨Hb, c, s, q⟩ => by
    show rdE A B E fa σ H _
    refine rd_then s q fun k d c1 v Hb1 H1 _ s1 t1 k1 q1 => ?_
    cases d with
    | int j =>
      dsimp only at q1
      split at q1
      · rename_i h0
        unfold gTRg at q1
        dsimp only at q1
        split at q1
        · rename_i hj
          refine ⟨j, k1.o.int, rg_ok hj h0, fun p hp => ?_⟩
          have z := repL_rng (A := A) (Hb := Hb1) 0 j.toNat
          have e0 : rgV 0 j = (List.range j.toNat).map fun i : Nat => V.int (0 + (i : Int)) := by
            unfold rgV
            rw [Int.sub_zero]
          rw [e0]
          obtain ⟨s4, t4, r4⟩ := s1.newTup hp z
          exact q1 _ _ _ s4 t4 r4
        · exact q1.elim
      · exact q1.elim
    | _ => exact q1.elim
/-! ### two names at once where one is captured: by way of a pair -/
theorem EPost.imp {Q Q' : VK} {r : ER} (h : EPost A B E Hb H σ Q r) (i : ∀ x H, Q x H → Q' x H) : EPost A B E Hb H σ Q' r := by
  cases r with
  | ok k d c => exact fun v Hb' H' s t k => i _ _ (h v Hb' H' s t k)
  | exc x W => exact h
  | bad => exact h
def De1 (De : Ends) : Ends := { De with nx := fun σ' H' => ∀ (p : Addr) (o : HO), H' p = none → De.nx σ' (upd H' p o) }
theorem SPost.new {r : SR} (h : SPost A B E Hb De r) : SPost A B E Hb (De1 De) r := by
  cases r with
  | nx c => exact fun σ' Hb' H' e s p o hp => h σ' Hb' _ e (s.new hp)
  | brk c => exact h
  | cnt c => exact h
  | ret fr d W => exact h
  | exc x W => exact h
  | bad => exact h
theorem ds_parT {i j : Nat} {x y : Str} {a b : Expr} {px py pt : Pos} {kt k2 : Nat} {pt2 : Pos} {pos : Pos} (hc : X.calm = true) (hij : i ≠ j) (hx : PG X (.Name x px) (gName i)) (hy : PG X (.Name y py) (gName j)) (ha : DE X A B E a fa) (hb : ∀ B, DE X A B E b fb)
    (hw : swappedStores [.Tuple [.Name x px, .Name y py] kt pt] (.Tuple [a, b] k2 pt2) X.env = pure none)
    (hs : swapsWithSole [.Tuple [.Name x px, .Name y py] kt pt] (.Tuple [a, b] k2 pt2) pos.line X.env = pure false := by rfl)
    (h1 : starEach [a, b] X.env = (false, eval a X.env) :: starEach [b] X.env := by rfl) (h2 : starEach [b] X.env = (false, eval b X.env) :: starEach [] X.env := by rfl) (h3 : (assignEach [.Tuple [.Name x px, .Name y py] kt pt] X.env).map (·.2) = [assign (.Tuple [.Name x px, .Name y py] kt pt) X.env] := by rfl) :
    DS X A B E (.Assign [.Tuple [.Name x px, .Name y py] kt pt] (.Tuple [a, b] k2 pt2) pos) (sParK i j fa fb) :=
  PS.imp (ps_asg (pe_tup (pa_cons ha (pa_cons (pey hb) pa_nil h2) h1)) (pg_tup hc (pgs_cons hx (pgs_cons hy pgs_nil))) hs hw h3) fun D σ H ⟨Hb, c, s, q⟩ => by
    have z := rd_par hij s q.new
    show rdE A B E fa σ H fun x H1 => rdEy A E fb σ H1 fun y H2 => ([x, y] : List V).length ≤ sizeLine ∧ ∀ p, H2 p = none → gTup X.K 2 (gCons (gName i) (gCons (gName j) gNil)) (.ref p) σ (upd H2 p (.tup [x, y])) D.nx
    obtain ⟨Hb0, c0, s0, z⟩ := z
    refine ⟨Hb0, c0, s0, EPost.imp z fun x H1 h => ?_⟩
    obtain ⟨B', h⟩ := h
    obtain ⟨Hb1, c1, s1, h⟩ := h
    refine ⟨B', Hb1, c1, s1, EPost.imp h fun y H2 h => ⟨by show 2 ≤ sizeLine; decide, fun p hp => ?_⟩⟩
    obtain ⟨v, w, e, h⟩ := h
    cases e
    exact ⟨p, _, rfl, SqT.of upd_same, rfl, _, _, rfl, _, _, rfl, rfl, h p _ hp⟩
/-- three at once, none of them the frame's own list -/
def sPar3 (i j l : Nat) (ga : AF) : SF := fun c => match ga c with
  | .ok [d1, d2, d3] c1 => if i < c1.r.length ∧ j < c1.r.length ∧ l < c1.r.length then .nx (((c1.put i (some (false, d1))).put j (some (false, d2))).put l (some (false, d3))) else .bad
  | .ok _ _ => .bad
  | .exc x W => .exc x W
  | .bad => .bad
theorem put_len {c : Cfg} {i : Nat} {o : Option (Bool × D)} : (c.put i o).r.length = c.r.length := by
  unfold Cfg.put
  simp
theorem ds_par3 {i j l : Nat} {x y z : Str} {a b c : Expr} {px py pz pt pos : Pos} {kt k2 : Nat} {pt2 : Pos} (hc : X.calm = true) (hN : X.N.Nodup) (hi : X.N[i]? = some x) (hj : X.N[j]? = some y) (hl : X.N[l]? = some z) (hij : i ≠ j) (hil : i ≠ l) (hjl : j ≠ l)
    (hx : X.env.scope.names.lookup x = some .local) (hy : X.env.scope.names.lookup y = some .local) (hz : X.env.scope.names.lookup z = some .local) (ha : DA X A B E [a, b, c] ga)
    (hw : swappedStores [.Tuple [.Name x px, .Name y py, .Name z pz] kt pt] (.Tuple [a, b, c] k2 pt2) X.env = pure (some [x, y, z]))
    (hs : swapsWithSole [.Tuple [.Name x px, .Name y py, .Name z pz] kt pt] (.Tuple [a, b, c] k2 pt2) pos.line X.env = pure false := by rfl) :
    DS X A B E (.Assign [.Tuple [.Name x px, .Name y py, .Name z pz] kt pt] (.Tuple [a, b, c] k2 pt2) pos) (sPar3 i j l ga) :=
  PS.imp (ps_par3 hc hN hi hj hl hij hil hjl hx hy hz ha hw hs) fun D σ H ⟨Hb, c, s, q⟩ => by
    refine ⟨Hb, c, s, ?_⟩
    unfold sPar3 at q
    cases eg : ga c with
    | exc x W => rw [eg] at q; exact (q σ).toE
    | bad => rw [eg] at q; exact q.elim
    | ok ds c1 =>
      rw [eg] at q
      match ds, q with
      | [d1, d2, d3], q =>
        intro vs Hb1 H1 s1 t1 k1
        dsimp only at q
        split at q
        · rename_i hh
          obtain ⟨v1, r1, rfl, h1, k1⟩ := repL_cons.mp k1
          obtain ⟨v2, r2, rfl, h2, k1⟩ := repL_cons.mp k1
          obtain ⟨v3, r3, rfl, h3, k1⟩ := repL_cons.mp k1
          rw [repL_nil.mp k1]
          refine ⟨v1, v2, v3, rfl, ?_⟩
          have sa := s1.setS hh.1 h1
          have sb := sa.setS (i := j) (by rw [put_len]; exact hh.2.1) h2
          have sc := sb.setS (i := l) (by rw [put_len, put_len]; exact hh.2.2) h3
          exact q _ Hb1 H1 t1.b sc
        · exact q.elim
/-- x[e1], x[e2] = (a, b), x the frame's own list -/
def putAt (i : Nat) (d di : D) (c : Cfg) : Option Cfg := match di, ownL c i with
  | .int n, some ds => match ixN ds.length n with
    | some j => some (c.put i (some (true, .lst (ds.set j d))))
    | none => none
  | _, _ => none
def sSwapI (i : Nat) (ga : AF) (f1 f2 : EF) : SF := fun c => match ga c with
  | .ok [d1, d2] c1 => if (ownL c1 i).isSome then (f1 c1).toS (fun _ di c2 => match putAt i d1 di c2 with
    | some c3 => if (ownL c3 i).isSome then (f2 c3).toS (fun _ dj c4 => match putAt i d2 dj c4 with
      | some c5 => .nx c5
      | none => .bad) else .bad
    | none => .bad) else .bad
  | .ok _ _ => .bad
  | .exc x W => .exc x W
  | .bad => .bad
theorem rd_putAt {i : Nat} {d : D} {v : V} {f1 : EF} {K : Cfg → SR} {Q : L2.St → Hp → Prop} (s : Sr A B Hb H σ c) (r : Rep A Hb d v) (q : SPost A B E Hb De (if (ownL c i).isSome then (f1 c).toS (fun _ di c2 => match putAt i d di c2 with
    | some c3 => K c3
    | none => .bad) else .bad)) (n : ∀ (c3 : Cfg) (Hb1 H1 : Hp), Sr A B Hb1 H1 σ c3 → Same Hb Hb1 → SPost A B E Hb1 De (K c3) → Q σ H1) : gSub (tVar i) (rdE A B E f1) rSetL v σ H Q := by
  split at q
  · rename_i ho
    obtain ⟨ds0, e0⟩ := Option.isSome_iff_exists.mp ho
    obtain ⟨a, xs0, h1, h2, _⟩ := own_at s (ownL_eq e0)
    refine ⟨_, h1, ?_⟩
    refine rs_then s q fun k dd c1 w Hb1 H1 _ s1 t1 k1 q1 => ?_
    unfold putAt at q1
    cases dd with
    | int m =>
      cases eo : ownL c1 i with
      | none => rw [eo] at q1; exact q1.elim
      | some ds =>
        rw [eo] at q1
        dsimp only at q1
        cases ej : ixN ds.length m with
        | none => rw [ej] at q1; exact q1.elim
        | some j =>
          rw [ej] at q1
          obtain ⟨a', xs, g1, g2, g3⟩ := own_at s1 (ownL_eq eo)
          rw [h1] at g1
          cases g1
          exact ⟨a, xs, m, j, rfl, k1.o.int, g2, by rw [← g3.len]; exact ej, n _ Hb1 _ (s1.mut (ownL_eq eo) a h1 (g3.set j (Rep.mono t1.b _ _ r))) t1.b q1⟩
    | _ => exact q1.elim
  · exact q.elim
theorem ds_swapI {i : Nat} {st : Stmt} {f1 f2 : EF} (h : PS X st (tAsg (tTup (rdA A B E ga)) (gTup X.K 2 (gCons (gSub (tVar i) (rdE A B E f1) rSetL) (gCons (gSub (tVar i) (rdE A B E f2) rSetL) gNil))))) : DS X A B E st (sSwapI i ga f1 f2) := PS.imp h fun D σ H ⟨Hb, c, s, q⟩ => by
  refine ⟨Hb, c, s, ?_⟩
  unfold sSwapI at q
  cases eg : ga c with
  | exc x W => rw [eg] at q; exact (q σ).toE
  | bad => rw [eg] at q; exact q.elim
  | ok ds c1 =>
    rw [eg] at q
    match ds, q with
    | [d1, d2], q =>
      intro vs Hb1 H1 s1 t1 k1
      obtain ⟨v1, r1, rfl, h1, k1⟩ := repL_cons.mp k1
      obtain ⟨v2, r2, rfl, h2, k1⟩ := repL_cons.mp k1
      rw [repL_nil.mp k1]
      refine ⟨by show 2 ≤ sizeLine; decide, fun p hp => ⟨p, _, rfl, SqT.of upd_same, rfl, v1, _, rfl, ?_⟩⟩
      have s2 := s1.new (o := .tup [v1, v2]) hp
      refine rd_putAt (K := fun c3 => if (ownL c3 i).isSome then (f2 c3).toS (fun _ dj c4 => match putAt i d2 dj c4 with
        | some c5 => .nx c5
        | none => .bad) else .bad) s2 h1 (SPost.mono t1.b q) fun c3 Hb3 H3 s3 e3 q3 => ⟨v2, _, rfl, ?_⟩
      exact rd_putAt (K := fun c5 => .nx c5) s3 (Rep.mono e3 _ _ h2) q3 fun c5 Hb5 H5 s5 e5 q5 => ⟨rfl, q5 σ Hb5 H5 (Same.refl _) s5⟩
end
end DL
namespace DL
open PySem PySem.Spec PyProof.Rows L2
/-! ### fuels -/
def fuI (i : Nat) (c : Cfg) : Nat := match c.r[i]? with
  | some (some (_, .int n)) => n.natAbs + 2
  | _ => 0
def fuL (i : Nat) (c : Cfg) : Nat := match c.r[i]? with
  | some (some (_, .lst ds)) => ds.length + 2
  | _ => 0
def fuW (c : Cfg) : Nat := c.W.1.length + 2
/-! ### keywords -/
theorem kw_of {K : PySem.W.Frag} {x qual : Str} {st : Stmt} {f : Addr} {fd : FuncData} {ps ks : List Str} {n1 n2 : Nat} {π : List Nat} (F : Fun K x qual st f fd)
    (h : ∀ (kV doc pm : Value) (an : Option Addr) (cdv ct : Value) (us ws : List Value), us.length = n1 → ws.length = n2 → bindArgs (PySem.W.fnOf x qual (defArgs st) (defBody st) (defScope st) .none kV doc pm an cdv ct) ⟨us, ks.zip ws⟩ = pure (ps.zip (permL π (us ++ ws)))) : KwB fd ps ks n1 n2 π := by
  obtain ⟨oc, od, kV, doc, pm, an, cdv, ct, osl, rfl, lk, hcd⟩ := F.ex
  exact ⟨h kV doc pm an cdv ct⟩
/-! ### the deal's word -/
/-- the cells without the zeros at their end -/
def trimZ (ns : List Int) : List Int := (ns.reverse.dropWhile (· = 0)).reverse
/-- what _law_any(deal, b) tells, and what the deal is behind it -/
def anyW (W : Wd) (b : Int) : Int × Wd := match lastI (trimZ W.1) with
  | some n => (n % b, ((trimZ W.1).dropLast ++ [n / b], W.2))
  | none => ((W.2 * 40693 + 71) % 2147483647 / 64 % b, ([], (W.2 * 40693 + 71) % 2147483647))
/-- where it serves -/
def anyOk (W : Wd) (b : Int) : Bool := fdivOk b && decide (W.1.length ≤ 1000)
def F__law_any : FF
  | [.deal, .int b], W => if anyOk W b then .ret false (.int (anyW W b).1) (anyW W b).2 else .bad
  | _, _ => .bad
def f_any0 : SF := sWhile fuW (evAnd (evD0ne 0) (evD0z 0)) (sD0pop 0)
def f_any1 : SF := sIf (evD0ne 0) (sSeq (sD0popI 0 2) (sSeq (sD0app 0 (ev2 gFdiv (evB 2) (evB 1))) (sRet (ev2 gMod (evB 2) (evB 1))))) sNil
def f_any2 : SF := sD1 0 (ev2 gMod (ev1 gInt (ev2 gAdd (ev2 gMul (evD1 0) (evC (.int 40693))) (evC (.int 71)))) (evC (.int 2147483647)))
def f_any3 : SF := sRet (ev2 gMod (ev1 gInt (ev2 gFdiv (evD1 0) (evC (.int 64)))) (evB 1))
def f__law_any : SF := sSeq f_any0 (sSeq f_any1 (sSeq f_any2 f_any3))
theorem trimZ_nil : trimZ [] = [] := rfl
theorem trimZ_snoc (ns : List Int) (n : Int) : trimZ (ns ++ [n]) = if n = 0 then trimZ ns else ns ++ [n] := by
  unfold trimZ
  rw [List.reverse_append]
  show (List.dropWhile (fun x => decide (x = 0)) (n :: ns.reverse)).reverse = _
  rw [List.dropWhile_cons]
  by_cases h : n = 0
  · simp [h]
  · simp [h]
theorem lastI_snoc (ns : List Int) (n : Int) : lastI (ns ++ [n]) = some n := by
  unfold lastI
  simp
theorem snoc_of {ns : List Int} (h : ns ≠ []) : ∃ ms m, ns = ms ++ [m] := ⟨ns.dropLast, ns.getLast h, (List.dropLast_concat_getLast h).symm⟩
theorem any_while (r : List (Option (Bool × D))) (hr : r[0]? = some (some (false, .deal))) (bl : Int) : ∀ (n : Nat) (ns : List Int), ns.length < n → goWhile (evAnd (evD0ne 0) (evD0z 0)) (sD0pop 0) n ⟨r, (ns, bl)⟩ = .nx ⟨r, (trimZ ns, bl)⟩
  | 0, ns, h => absurd h (Nat.not_lt_zero _)
  | n + 1, ns, h => by
    have hd : ∀ W : Wd, isDeal ⟨r, W⟩ 0 = true := fun W => by
      unfold isDeal
      rw [hr]
    by_cases e : ns = []
    · subst e
      unfold goWhile evAnd evD0ne
      rw [if_pos (hd _)]
      rfl
    · obtain ⟨ms, m, rfl⟩ := snoc_of e
      have e1 : (!(ms ++ [m]).isEmpty) = true := by simp
      unfold goWhile evAnd evD0ne
      rw [if_pos (hd _)]
      simp only [bind_ok, e1, if_true]
      unfold evD0z
      rw [if_pos (hd _)]
      simp only [lastI_snoc, toS_ok]
      by_cases hz : m = 0
      · subst hz
        simp only [decide_true]
        unfold sD0pop popW
        rw [if_pos (hd _)]
        simp only [lastI_snoc, List.dropLast_concat]
        rw [trimZ_snoc, if_pos rfl]
        exact any_while r hr bl n ms (by simp at h; omega)
      · rw [trimZ_snoc, if_neg hz]
        simp only [hz, decide_false]
theorem any_eq (W : Wd) (b : Int) (h : anyOk W b = true) : runD 3 f__law_any [.deal, .int b] W = .ret false (.int (anyW W b).1) (anyW W b).2 := by
  obtain ⟨ns, bl⟩ := W
  unfold anyOk at h
  rw [Bool.and_eq_true] at h
  obtain ⟨hf, hl⟩ := h
  have hl : ns.length ≤ 1000 := of_decide_eq_true hl
  have hb : 0 < b := by
    unfold fdivOk at hf
    rw [Bool.and_eq_true] at hf
    exact of_decide_eq_true hf.1
  have hr : ([some (false, D.deal), some (false, D.int b), none] : List (Option (Bool × D)))[0]? = some (some (false, .deal)) := rfl
  have hw : f_any0 ⟨[some (false, D.deal), some (false, D.int b), none], (ns, bl)⟩ = .nx ⟨[some (false, D.deal), some (false, D.int b), none], (trimZ ns, bl)⟩ :=
    any_while _ hr bl _ ns (by show ns.length < ns.length + 2; omega)
  have hc : startC 3 [.deal, .int b] (ns, bl) = ⟨[some (false, D.deal), some (false, D.int b), none], (ns, bl)⟩ := rfl
  have ht : (trimZ ns).length ≤ ns.length := by
    unfold trimZ
    rw [List.length_reverse]
    exact Nat.le_trans (List.Sublist.length_le (List.dropWhile_sublist _)) (Nat.le_of_eq (List.length_reverse ..))
  unfold runD f__law_any
  rw [hc]
  unfold sSeq
  rw [hw, sbind_nx]
  unfold anyW
  by_cases e : trimZ ns = []
  · rw [e]
    have h1 : f_any1 ⟨[some (false, D.deal), some (false, D.int b), none], ([], bl)⟩ = .nx ⟨[some (false, D.deal), some (false, D.int b), none], ([], bl)⟩ := rfl
    rw [h1, sbind_nx]
    have h2 : f_any2 ⟨[some (false, D.deal), some (false, D.int b), none], ([], bl)⟩ = .nx ⟨[some (false, D.deal), some (false, D.int b), none], ([], (bl * 40693 + 71) % 2147483647)⟩ := by
      have hm : mulOk bl 40693 = true := by unfold mulOk; simp
      simp [f_any2, sD1, ev2, ev1, evD1, evC, isDeal, gMul, gMulI, gAdd, gAddI, gI, gMod, gInt, hm]
    rw [h2, sbind_nx]
    have hk : fdivOk 64 = true := by decide
    simp [f_any3, sRet, ev2, ev1, evD1, evC, evB, isDeal, gFdiv, gI, gMod, gInt, hk, hb, lastI]
  · obtain ⟨ms, m, e2⟩ := snoc_of e
    rw [e2]
    have hlen : ms.length < 1000 := by
      have : (trimZ ns).length = ms.length + 1 := by rw [e2]; simp
      omega
    have hlen2 : ms.length < big := by unfold big; omega
    simp [f_any1, sIf, evD0ne, isDeal, sSeq, sD0popI, popW, lastI_snoc, putK, Cfg.put, sD0app, ev2, evB, gFdiv, gI, hf, hlen2, sRet, gMod, hb]
theorem FnOk.weak {P : Program} {w : World} {K : PySem.W.Frag} {mg : Str → Option Value} {base : Heap} {CX : CXT} {k : Nat} {f : Addr} {fd : FuncData} {ps : List Str} {sp sp' : Sp} (F : FnOk P w K mg base CX k f fd ps sp) (h : ∀ vs H Q E, sp' vs H Q E → sp vs H Q E) : FnOk P w K mg base CX k f fd ps sp' :=
  ⟨fun vs H Q E z => F.len vs H Q E (h vs H Q E z), fun A outer s H args us vs Q E hr e0 hb r z => F.run A outer s H args us vs Q E hr e0 hb r (h vs H Q E z)⟩
theorem spD_le {A : Am} {n : Nat} {F G : FF} (h : ∀ ds W, ds.length = n → G ds W ≠ .bad → F ds W = G ds W) : ∀ vs H Q E, spD A n G vs H Q E → spD A n F vs H Q E := fun vs H Q E ⟨hl, Hb, ds, W, h1, h2, h3⟩ => ⟨hl, Hb, ds, W, h1, h2, by
  rw [h ds W (by rw [h2.len]; exact hl) fun z => by rw [z] at h3; exact h3]
  exact h3⟩
theorem any_le : ∀ (ds : List D) (W : Wd), ds.length = 2 → F__law_any ds W ≠ .bad → runD 3 f__law_any ds W = F__law_any ds W := fun ds W hl hn => by
  match ds, hl, hn with
  | [.deal, .int b], _, hn =>
    unfold F__law_any at hn ⊢
    dsimp only at hn ⊢
    split at hn
    · rename_i h
      rw [if_pos h]
      exact any_eq W b h
    · exact absurd rfl hn
  | [.deal, .non], _, hn => exact absurd rfl hn
  | [.deal, .bl _], _, hn => exact absurd rfl hn
  | [.deal, .str _], _, hn => exact absurd rfl hn
  | [.deal, .tup _], _, hn => exact absurd rfl hn
  | [.deal, .lst _], _, hn => exact absurd rfl hn
  | [.deal, .obj _ _ _], _, hn => exact absurd rfl hn
  | [.deal, .deal], _, hn => exact absurd rfl hn
  | [.deal, .err _ _], _, hn => exact absurd rfl hn
  | [.deal, .dK _ _], _, hn => exact absurd rfl hn
  | [.deal, .dT _ _], _, hn => exact absurd rfl hn
  | [.non, _], _, hn => exact absurd rfl hn
  | [.bl _, _], _, hn => exact absurd rfl hn
  | [.int _, _], _, hn => exact absurd rfl hn
  | [.str _, _], _, hn => exact absurd rfl hn
  | [.tup _, _], _, hn => exact absurd rfl hn
  | [.lst _, _], _, hn => exact absurd rfl hn
  | [.obj _ _ _, _], _, hn => exact absurd rfl hn
  | [.err _ _, _], _, hn => exact absurd rfl hn
  | [.dK _ _, _], _, hn => exact absurd rfl hn
  | [.dT _ _, _], _, hn => exact absurd rfl hn
end DL
namespace DL
open PySem PySem.Spec PyProof.Rows L2
section
variable {prog : Program} {w : World} {A : Around} {E : Value → Shared → Prop} {s : Shared}
theorem cut_back (n : Nat) : Builtin.Slice.sliceAdjust none none (-1) (n : Int) = ((n : Int) - 1, -1) ∧ Builtin.Slice.slicePlaces ((n : Int) - 1) (-1) (-1) = n := by
  constructor
  · unfold Builtin.Slice.sliceAdjust
    simp
  · unfold Builtin.Slice.slicePlaces
    rw [if_neg (by decide)]
    by_cases h : n = 0
    · subst h
      rfl
    · rw [if_pos (by omega)]
      rw [show -(-1 : Int) = 1 by decide, Int.ediv_one]
      omega
theorem applied_back {sl : Addr} {vl vu vs : Value} {n : Nat} {Q : Int × Int × Nat → Shared → Prop} (hs : s.heap.IsSliceOf sl vl vu vs) (pl : IsPart vl none) (pu : IsPart vu none) (ps : IsPart vs (some (-1)))
    (h : Q ((n : Int) - 1, -1, n) s) : wpAny (model prog w) A (Builtin.Slice.sliceApplied (.ref sl) (pure (n : Int))) Q E s := by
  obtain ⟨os, hos, hcs, hds⟩ := id hs
  unfold Builtin.Slice.sliceApplied Builtin.Slice.sliceFields
  refine wpAny_bind (wpAny_bind (wpAny_field hos hds (x := vl) rfl (wpAny_bind (wpAny_field hos hds (x := vu) rfl (wpAny_bind (wpAny_field hos hds (x := vs) rfl (wpAny_pure ?_)))))))
  refine wpAny_bind (HT.slicePart_ ps ?_)
  show wpAny _ _ (if ((-1 : Int) == 0) = true then _ else _) _ _ s
  rw [if_neg (by decide)]
  refine wpAny_bind (HT.slicePart_ pl (wpAny_bind (HT.slicePart_ pu (wpAny_bind (wpAny_pure ?_)))))
  show wpAny _ _ (match Builtin.Slice.sliceAdjust none none (-1) (n : Int) with | (lo, hi) => pure (lo, (-1 : Int), Builtin.Slice.slicePlaces lo hi (-1))) _ _ s
  rw [(cut_back n).1]
  show wpAny _ _ (pure ((n : Int) - 1, (-1 : Int), Builtin.Slice.slicePlaces ((n : Int) - 1) (-1) (-1))) _ _ s
  rw [(cut_back n).2]
  exact wpAny_pure h
theorem pick_back (xs : Array Value) : ((List.range xs.size).filterMap fun (m : Nat) => xs[(((xs.size : Int) - 1) + (m : Int) * (-1)).toNat]?).toArray = xs.toList.reverse.toArray := by
  congr 1
  apply List.ext_getElem?
  intro j
  have e : ∀ n, n ≤ xs.size → (List.range n).filterMap (fun (m : Nat) => xs[(((xs.size : Int) - 1) + (m : Int) * (-1)).toNat]?) = (List.range n).map fun k => xs.toList.reverse.getD k .none := fun n hn => by
    induction n with
    | zero => rfl
    | succ n ih =>
      rw [List.range_succ, List.filterMap_append, List.map_append, ih (by omega)]
      congr 1
      have h1 : xs.size - 1 - n < xs.size := by omega
      have h2 : (((xs.size : Int) - 1) + (n : Int) * (-1)).toNat = xs.size - 1 - n := by omega
      have h3 : xs.toList.reverse.getD n .none = xs[xs.size - 1 - n] := by
        rw [List.getD_eq_getElem?_getD, List.getElem?_reverse (by simpa using (by omega : n < xs.size))]
        simp [h1]
      simp only [List.filterMap_cons, List.filterMap_nil, List.map_cons, List.map_nil, h2, Array.getElem?_eq_getElem h1, h3]
  rw [e _ (Nat.le_refl _), List.getElem?_map]
  by_cases hj : j < xs.size
  · rw [List.getElem?_range hj]
    have h2 : j < xs.toList.reverse.length := by simpa using hj
    simp [List.getD_eq_getElem?_getD, List.getElem?_eq_getElem h2]
  · rw [List.getElem?_eq_none (by simpa using hj), List.getElem?_eq_none (by simpa using hj)]
    rfl
theorem item_back {t sl : Addr} {items : Array Value} {vl vu vs : Value} {Q : Value → Shared → Prop} (ht : IsTup s.heap t items) (hs : s.heap.IsSliceOf sl vl vu vs) (pl : IsPart vl none) (pu : IsPart vu none) (ps : IsPart vs (some (-1)))
    (h : Q (.ref s.heap.objs.size) { s with heap := s.heap.push { cls := .type "tuple", data := .seq items.toList.reverse.toArray } }) (hz : items.size ≤ sizeLine) : wpAny (model prog w) A (getItem (.ref t) (.ref sl)) Q E s := by
  have hfit : sizeOk (.seq items.toList.reverse.toArray) := by
    show items.toList.reverse.toArray.size ≤ sizeLine
    simpa using hz
  obtain ⟨os, hos, hcs, hds⟩ := id hs
  have hTs : s.TypeIs (.ref sl) "slice" := ⟨os, hos, hcs⟩
  unfold getItem
  try with_reducible refine wpAny_holding ?_
  first | refine wpAny_bind (wpAny_pure ?_) | skip
  refine wpAny_bind (wpAny_sequenceKey ht.typeIs (by decide) ?_)
  refine wpAny_bind (wpAny_callSpecial?_slot (name := Str.ofString "__getitem__") ht.typeIs PyProof.Rows.slot_tuple_getitem (wpAny_call_entry PyProof.Rows.slot_tuple_getitem ht.typeIs entry_tuple_getitem ?_ (args_tuple_getitem _ _)))
  show wpAny _ _ (Builtin.Tuple.tupleItemsOf (.ref t) >>= _) _ _ s
  refine wpAny_bind (tupleItemsOf_ ht ?_)
  refine wpAny_bind (wpAny_typeOf hTs ?_)
  rw [if_pos (by decide)]
  refine wpAny_bind (applied_back hs pl pu ps ?_)
  have hno : ¬ ((((items.size : Int) - 1) == 0 && (-1 : Int) == 1 && items.size == items.size) = true) := by simp
  show wpAny _ _ (if (((items.size : Int) - 1) == 0 && (-1 : Int) == 1 && items.size == items.size) = true then _ else _) _ _ s
  rw [if_neg hno, pick_back]
  first
    | exact wpAny_bind (m := Builtin.Tuple.tupleExact _) (wpAny_newObj_type (wpAny_pure ⟨_, rfl, wpAny_pure h⟩) hfit)
    | exact wpAny_bind (m := Builtin.Tuple.tupleExact _) (wpAny_newObj_type (wpAny_bind (wpAny_pure (wpAny_pure ⟨_, rfl, wpAny_pure h⟩))) hfit)
    | exact wpAny_bind (wpAny_bind (m := Builtin.Tuple.tupleExact _) (wpAny_newObj_type (wpAny_pure (wpAny_pure ⟨_, rfl, wpAny_pure h⟩)) hfit))
    | exact wpAny_bind (wpAny_bind (m := Builtin.Tuple.tupleExact _) (wpAny_newObj_type (wpAny_pure ⟨_, rfl, wpAny_pure h⟩) hfit))
end
section
variable {X : Cx} {A : Am} {B : Bs} {E : XS} {Hb H Hb1 H1 : Hp} {σ : List (Option V)} {c c1 : Cfg} {fa fb fc ft fe : EF} {f g : SF} {De : Ends} {ga gb : AF}
def tRevT (K : PySem.W.Frag) (te : TE) : TE := fun σ H Q => te σ H fun x H1 => ∃ (a : Addr) (xs : List V), x = .ref a ∧ SqT K H1 a xs ∧ ∀ p, H1 p = none → Q (.ref p) (upd H1 p (.tup xs.reverse))
theorem pe_revT {e : Expr} {te : TE} {k : Nat} {p1 p2 p3 pos : Pos} (he : PE X e te) : PE X (.Subscript e (.Slice none none (some (.UnaryOp .USub (.Constant (.int 1) k p1) p2)) p3) pos) (tRevT X.K te) := by
  constructor
  intro pins s σ H Q I h
  refine Subscript_ (thn (he.run pins s σ H _ I h) fun v s1 hh => ?_)
  obtain ⟨x, H1, I1, r1, a, xs, rfl, hx, q⟩ := hh
  cases r1
  have hst : PO X (some (.UnaryOp .USub (.Constant (.int 1) k p1) p2)) (tPart (tUn (rU fun i => .int (-i)) (tC (.int 1)))) := po_some (pe_un un_neg pe_int)
  refine wpAny_Slice (thn (po_none.run pins s1 σ H1 (fun o H2 => o = none ∧ H2 = H1) I1 ⟨rfl, rfl⟩) fun vl s2 h2 => ?_)
  obtain ⟨l, H2, I2, pl, rfl, rfl⟩ := h2
  refine thn (po_none.run pins s2 σ H2 (fun o H3 => o = none ∧ H3 = H2) I2 ⟨rfl, rfl⟩) fun vu s3 h3 => ?_
  obtain ⟨u, H3, I3, pu, rfl, rfl⟩ := h3
  refine thn (hst.run pins s3 σ H3 (fun o H4 => o = some (-1) ∧ H4 = H3) I3 ⟨1, rfl, -1, rfl, rfl, rfl⟩) fun vs s4 h4 => ?_
  obtain ⟨o, H4, I4, ps, rfl, rfl⟩ := h4
  have I5 : Inv X pins σ H4 { s4 with heap := s4.heap.push { cls := .type "slice", data := .fields #[vl, vu, vs] } } := I4.kept (t' := s4.toks) fun b ob z => Heap.get?_push_of_some _ z
  obtain ⟨its, r, ht, hz⟩ := I5.tuple hx
  have hlen := r.length
  show wpAny (model X.prog X.w) X.A (subscriptTail e (.Slice none none (some (.UnaryOp .USub (.Constant (.int 1) k p1) p2)) p3) (.ref a) (.ref s4.heap.objs.size)) (EP X pins σ Q) X.xe { s4 with heap := s4.heap.push { cls := .type "slice", data := .fields #[vl, vu, vs] } }
  refine tail_any (ops := [.ref a, .ref s4.heap.objs.size]) ht.typeIs PyProof.Rows.slot_tuple_getitem.lookup ?_ (by with_unfolding_all rfl)
  refine item_back ht (Heap.IsSliceOf.new _ vl vu vs) pl pu ps ?_ (by rw [List.size_toArray]; omega)
  refine ⟨.ref _, _, I5.laid (t' := s4.toks) (o := .tup xs.reverse) (fun b ob z => Heap.get?_push_of_some _ z) (Nat.le_refl _) ?_, rfl, q _ (I5.hok.fresh (Nat.le_refl _))⟩
  exact ⟨by rw [List.length_reverse]; exact hz, _, r.reverse, IsTup.new _ _⟩
def gRev : D → Option (Kd × D)
  | .lst ds => some (.fr, .lst ds.reverse)
  | .tup ds => some (.st, .tup ds.reverse)
  | _ => none
theorem PE.or {e : Expr} {t t' : TE} (h : PE X e t) (h' : PE X e t') : PE X e (fun σ H Q => t σ H Q ∨ t' σ H Q) := ⟨fun pins s σ H Q I q => q.elim (h.run pins s σ H Q I) (h'.run pins s σ H Q I)⟩
theorem de_rev {e : Expr} {k : Nat} {p1 p2 p3 pos : Pos} (hK : X.K = A.K) (ha : DE X A B E e fa) : DE X A B E (.Subscript e (.Slice none none (some (.UnaryOp .USub (.Constant (.int 1) k p1) p2)) p3) pos) (ev1 gRev fa) :=
  PE.imp (PE.or (pe_revL ha) (pe_revT ha)) fun σ H Q ⟨Hb, c, s, q⟩ => by
    cases ef : fa c with
    | exc x W =>
      refine .inl ⟨Hb, c, s, ?_⟩
      unfold ev1 at q
      rw [ef] at q ⊢
      exact q
    | bad =>
      unfold ev1 at q
      rw [ef] at q
      exact q.elim
    | ok k d c1 =>
      cases d with
      | lst ds =>
        refine .inl (rd_then s q fun k d c1 v Hb1 H1 e1 s1 t1 k1 q1 => ?_)
        rw [ef] at e1
        cases e1
        obtain ⟨a, xs, rfl, h1, h2⟩ := k1.o.lst s1.same
        refine ⟨a, xs, rfl, SqL.of h1, fun p hp => ?_⟩
        obtain ⟨s4, t4, r4⟩ := s1.newLst hp h2.reverse
        exact q1 _ _ _ s4 t4 r4
      | tup ds =>
        refine .inr (rd_then s q fun k d c1 v Hb1 H1 e1 s1 t1 k1 q1 => ?_)
        rw [ef] at e1
        cases e1
        obtain ⟨a, xs, rfl, h1, h2⟩ := k1.o.tup
        refine ⟨a, xs, rfl, SqT.of (s1.same _ _ h1), fun p hp => ?_⟩
        obtain ⟨s4, t4, r4⟩ := s1.newTup hp h2.reverse
        exact q1 _ _ _ s4 t4 r4
      | _ =>
        unfold ev1 at q
        rw [ef] at q
        exact q.elim
end
end DL
namespace DL
open PySem PySem.Spec PyProof.Rows L2
section
variable {X : Cx} {A : Am} {B : Bs} {E : XS} {Hb H Hb1 H1 : Hp} {σ : List (Option V)} {c c1 : Cfg} {fa fb fc ft fe : EF} {f g : SF} {De : Ends} {ga gb : AF}
/-! ### the deal is drawn -/
/-- for x in script[:48] -/
def scrA (ns : List Int) : AF := fun c => .ok ((ns.take 48).map D.int) c
def rdIs (K : PySem.W.Frag) (A : Am) (B : Bs) (E : XS) : TI := fun σ H R => ∃ (a : Addr) (ns : List Int), σ[0]? = some (some (.ref a)) ∧ SqL K H a (ns.map V.int) ∧ rdI A B E (scrA ns) σ H R
theorem pi_scr {tg iter : Expr} (h : PI X tg iter (iList X.K (tSl (rSlL X.K) (tVar 0) tNoPart (tPart (tC (.int 48)))))) : PI X tg iter (rdIs X.K A B E) := PI.imp h fun σ H R ⟨a, ns, h0, hs, Hb, c, s, q⟩ => by
  refine ⟨_, h0, 48, rfl, a, _, rfl, hs, fun p hp => ?_⟩
  have e : cutV (ns.map V.int) none (some 48) = (ns.take 48).map V.int := by
    unfold cutV
    rw [List.length_map]
    show List.take (min 48 ns.length - 0) (List.drop 0 (ns.map V.int)) = _
    rw [List.drop_zero, Nat.sub_zero, List.map_take, ← List.take_take, List.take_of_length_le (i := ns.length) (by simp)]
  rw [e]
  obtain ⟨s4, t4, r4⟩ := s.newLst hp (RepL.of_ints (A := A) (H := Hb) (ns.take 48))
  obtain ⟨Hb2, s2, e2, r2⟩ := keepS s4 r4 (by intro z; cases z)
  obtain ⟨a', xs, ex, h1, h2⟩ := rep_lst.mp r2
  cases ex
  exact ⟨p, rfl, ⟨_, SqL.of (s2.same _ _ h1)⟩, q _ Hb2 _ s2 (t4.trans ⟨e2, .refl _⟩) (itok_list h1 h2)⟩
/-- cells = [abs(int(cell)) for cell in script[:48]] -/
def f_draw1 (ns : List Int) : SF := sSet 2 (evLc (scrA ns) (tgN 4) [4] (evC (.bl true)) (ev1 gAbs (ev1 gInt (evB 4))))
def t_draw1 (K : PySem.W.Frag) (A : Am) (B : Bs) (E : XS) : TS := fun D σ H => ∃ (a : Addr) (ns : List Int), σ[0]? = some (some (.ref a)) ∧ SqL K H a (ns.map V.int) ∧ rdS A B E (f_draw1 ns) D σ H
theorem ps_draw1 {st : Stmt} (h : PS X st (tAsg (tLc (rdIs X.K A B E) (gName 4) (rdTx A (evC (.bl true))) (rdEx A (ev1 gAbs (ev1 gInt (evB 4)))) [4]) (gName 2))) : PS X st (t_draw1 X.K A B E) := PS.imp h fun D σ H ⟨a, ns, h0, hs, q⟩ => by
  refine ⟨a, ns, h0, hs, ?_⟩
  obtain ⟨Hb, c, s, q⟩ := q
  have z : rdE A B E (evLc (scrA ns) (tgN 4) [4] (evC (.bl true)) (ev1 gAbs (ev1 gInt (evB 4)))) σ H fun x H1 => D.nx (σ.set 2 (some x)) H1 :=
    rs_then s q fun k d c1 v Hb1 H1 _ s1 _ k1 q1 => s1.putK k1 q1
  obtain ⟨Hb', c', s', q'⟩ := z
  exact rd_lc (tg := .Constant .none 0 ⟨0, 0, 0, 0⟩) (iter := .Constant .none 0 ⟨0, 0, 0, 0⟩) tgs_name (fun j h => h) s' q'
def f_draw2 : SF := sSet 3 (ev2 gAdd (evC (.int 7919)) (ev2 gMul (evC (.int 104729)) (evB 1)))
def f_draw3 : SF := sFor (evIt (evV 2)) (tgN 4) (sSet 3 (ev2 gMod (ev1 gInt (ev2 gAdd (ev2 gAdd (ev2 gMul (evB 3) (evC (.int 48271))) (ev2 gMod (evB 4) (evC (.int 2147483549)))) (evC (.int 11)))) (evC (.int 2147483647))))
def e_draw4 : EF := evLc (evIt (evV 2)) (tgN 4) [4] (ev2 gGe (evB 4) (ev2 gPow (evC (.int 10)) (evC (.int 18)))) (evV 4)
def t_draw4 (K : PySem.W.Frag) (A : Am) (B : Bs) (E : XS) : TS := tRet (tLst (tCons (tRevL K (rdE A B E e_draw4)) (tCons (tVar 3) tNil)))
def t_draw (K : PySem.W.Frag) (A : Am) (B : Bs) (E : XS) : TS := tSeq (t_draw1 K A B E) (tSeq (rdS A B E f_draw2) (tSeq (rdS A B E f_draw3) (t_draw4 K A B E)))
/-- what is drawn -/
def cellsW (ns : List Int) : List Int := (ns.take 48).map fun n => (n.natAbs : Int)
def blendW : List Int → Int → Int
  | [], b => b
  | n :: ns, b => blendW ns ((b * 48271 + n % 2147483549 + 11) % 2147483647)
def drawW (ns : List Int) (salt : Int) : Wd := (((cellsW ns).filter fun n => decide (10 ^ 18 ≤ n)).reverse, blendW (cellsW ns) (7919 + 104729 * salt))
def spDraw (A : Am) : Sp := fun vs H Q E => ∃ (a : Addr) (ns : List Int) (salt : Int), vs = [.ref a, .int salt] ∧ 0 ≤ salt ∧ salt < 1000 ∧ SqL A.K H a (ns.map V.int) ∧ LamX.Tabs A.T H ∧
  ∀ (wa wc : Addr) (H' : Hp), LamX.ExtN H H' → LamX.Tabs A.T H' → NtN H wa → NtN H wc → wa ≠ wc → H' wa = some (.lst [.ref wc, .int (drawW ns salt).2]) → H' wc = some (.lst ((drawW ns salt).1.map V.int)) → Q (.ref wa) H'
/-! the plain parts -/
def drC (salt : Int) (x2 x3 x4 : Option (Bool × D)) (W : Wd) : Cfg := ⟨[none, some (false, .int salt), x2, x3, x4], W⟩
theorem draw1_go (salt : Int) (W : Wd) : ∀ (ns : List Int) (acc : List D), acc.length + ns.length ≤ 48 → goLc (tgN 4) [4] (evC (.bl true)) (ev1 gAbs (ev1 gInt (evB 4))) (ns.map D.int) acc (drC salt none none none W) =
    .ok (acc ++ ns.map fun n => D.int (n.natAbs : Int)) (drC salt none none none W)
  | [], acc, _ => by simp [goLc]
  | n :: ns, acc, h => by
    have hl : acc.length < big := by
      unfold big
      simp at h
      omega
    rw [List.map_cons]
    unfold goLc
    have e1 : tgN 4 (D.int n) ((drC salt none none none W).wipe [4]) = some (drC salt none none (some (false, .int n)) W) := rfl
    rw [e1]
    dsimp only [evC]
    have e2 : ev1 gAbs (ev1 gInt (evB 4)) (drC salt none none (some (false, .int n)) W) = .ok .st (.int (n.natAbs : Int)) (drC salt none none (some (false, .int n)) W) := by
      have : (if n < 0 then -n else n) = (n.natAbs : Int) := by omega
      show ER.ok .st (.int (if n < 0 then -n else n)) _ = _
      rw [this]
    rw [e2]
    dsimp only
    rw [if_pos hl]
    have e3 : Cfg.mrg [4] (drC salt none none none W) (drC salt none none (some (false, .int n)) W) = drC salt none none none W := rfl
    rw [e3, draw1_go salt W ns (acc ++ [D.int (n.natAbs : Int)]) (by simp at h ⊢; omega)]
    simp
theorem draw1_eq (salt : Int) (W : Wd) (ns : List Int) : f_draw1 ns (drC salt none none none W) = .nx (drC salt (some (true, .lst ((cellsW ns).map D.int))) none none W) := by
  have h := draw1_go salt W (ns.take 48) [] (by simp; omega)
  unfold f_draw1 sSet evLc scrA
  dsimp only
  rw [h]
  unfold cellsW
  rw [List.map_map]
  rfl
theorem draw2_eq (salt : Int) (W : Wd) (x2 x4 : Option (Bool × D)) : f_draw2 (drC salt x2 none x4 W) = .nx (drC salt x2 (some (false, .int (7919 + 104729 * salt))) x4 W) := by
  have hm : mulOk 104729 salt = true := by unfold mulOk; simp
  simp [f_draw2, sSet, ev2, evC, evB, drC, gMul, gMulI, gI, hm, gAdd, gAddI, putK, Cfg.put]
theorem draw3_go (salt : Int) (W : Wd) (x2 : Option (Bool × D)) : ∀ (ns : List Int) (b : Int) (x4 : Option (Bool × D)), ∃ y4, goFor (tgN 4) (sSet 3 (ev2 gMod (ev1 gInt (ev2 gAdd (ev2 gAdd (ev2 gMul (evB 3) (evC (.int 48271))) (ev2 gMod (evB 4) (evC (.int 2147483549)))) (evC (.int 11)))) (evC (.int 2147483647)))) (ns.map D.int) (drC salt x2 (some (false, .int b)) x4 W) =
    .nx (drC salt x2 (some (false, .int (blendW ns b))) y4 W)
  | [], b, x4 => ⟨x4, rfl⟩
  | n :: ns, b, x4 => by
    obtain ⟨y4, ih⟩ := draw3_go salt W x2 ns ((b * 48271 + n % 2147483549 + 11) % 2147483647) (some (false, .int n))
    refine ⟨y4, ?_⟩
    rw [List.map_cons]
    unfold goFor
    have e1 : tgN 4 (D.int n) (drC salt x2 (some (false, .int b)) x4 W) = some (drC salt x2 (some (false, .int b)) (some (false, .int n)) W) := rfl
    rw [e1]
    have hm : mulOk b 48271 = true := by unfold mulOk; simp
    have e2 : sSet 3 (ev2 gMod (ev1 gInt (ev2 gAdd (ev2 gAdd (ev2 gMul (evB 3) (evC (.int 48271))) (ev2 gMod (evB 4) (evC (.int 2147483549)))) (evC (.int 11)))) (evC (.int 2147483647))) (drC salt x2 (some (false, .int b)) (some (false, .int n)) W) =
        .nx (drC salt x2 (some (false, .int ((b * 48271 + n % 2147483549 + 11) % 2147483647))) (some (false, .int n)) W) := by
      simp [sSet, ev2, ev1, evC, evB, drC, gMul, gMulI, gI, hm, gAdd, gAddI, gMod, gInt, putK, Cfg.put]
    dsimp only
    rw [e2]
    exact ih
theorem draw3_eq (salt : Int) (W : Wd) (o : Bool) (ns : List Int) (b : Int) : ∃ y4, f_draw3 (drC salt (some (o, .lst (ns.map D.int))) (some (false, .int b)) none W) = .nx (drC salt (some (false, .lst (ns.map D.int))) (some (false, .int (blendW ns b))) y4 W) := by
  obtain ⟨y4, h⟩ := draw3_go salt W (some (false, .lst (ns.map D.int))) ns b none
  refine ⟨y4, ?_⟩
  have e : evIt (evV 2) (drC salt (some (o, .lst (ns.map D.int))) (some (false, .int b)) none W) = .ok (ns.map D.int) (drC salt (some (false, .lst (ns.map D.int))) (some (false, .int b)) none W) := by
    cases o <;> rfl
  unfold f_draw3 sFor
  rw [e]
  exact h
theorem draw4_go (salt : Int) (W : Wd) (x2 x3 : Option (Bool × D)) : ∀ (ns : List Int) (acc : List D) (x4 : Option (Bool × D)), acc.length + ns.length ≤ 48 → ∃ y4, goLc (tgN 4) [4] (ev2 gGe (evB 4) (ev2 gPow (evC (.int 10)) (evC (.int 18)))) (evV 4) (ns.map D.int) acc (drC salt x2 x3 x4 W) =
    .ok (acc ++ (ns.filter fun n => decide (10 ^ 18 ≤ n)).map D.int) (drC salt x2 x3 y4 W)
  | [], acc, x4, _ => ⟨x4, by simp [goLc]⟩
  | n :: ns, acc, x4, h => by
    have hl : acc.length < big := by
      unfold big
      simp at h
      omega
    have e1 : tgN 4 (D.int n) ((drC salt x2 x3 x4 W).wipe [4]) = some (drC salt x2 x3 (some (false, .int n)) W) := rfl
    have e2 : ev2 gGe (evB 4) (ev2 gPow (evC (.int 10)) (evC (.int 18))) (drC salt x2 x3 (some (false, .int n)) W) = .ok .st (.bl (decide (10 ^ 18 ≤ n))) (drC salt x2 x3 (some (false, .int n)) W) := rfl
    have e3 : Cfg.mrg [4] (drC salt x2 x3 x4 W) (drC salt x2 x3 (some (false, .int n)) W) = drC salt x2 x3 (shOf x4) W := rfl
    have e4 : evV 4 (drC salt x2 x3 (some (false, .int n)) W) = .ok .st (.int n) (drC salt x2 x3 (some (false, .int n)) W) := rfl
    by_cases hn : (10 : Int) ^ 18 ≤ n
    · obtain ⟨y4, ih⟩ := draw4_go salt W x2 x3 ns (acc ++ [D.int n]) (shOf x4) (by simp at h ⊢; omega)
      refine ⟨y4, ?_⟩
      rw [List.map_cons]
      unfold goLc
      rw [e1]
      dsimp only
      rw [e2, decide_eq_true hn]
      dsimp only
      rw [e4]
      dsimp only
      rw [if_pos hl, e3, ih, List.filter_cons_of_pos (by simpa using hn)]
      simp
    · obtain ⟨y4, ih⟩ := draw4_go salt W x2 x3 ns acc (shOf x4) (by simp at h ⊢; omega)
      refine ⟨y4, ?_⟩
      rw [List.map_cons]
      unfold goLc
      rw [e1]
      dsimp only
      rw [e2, decide_eq_false hn]
      dsimp only
      rw [e3, ih, List.filter_cons_of_neg (by simpa using hn)]
theorem draw4_eq (salt : Int) (W : Wd) (o : Bool) (ns : List Int) (x3 x4 : Option (Bool × D)) (h : ns.length ≤ 48) : ∃ y4, e_draw4 (drC salt (some (o, .lst (ns.map D.int))) x3 x4 W) = .ok .fr (.lst ((ns.filter fun n => decide (10 ^ 18 ≤ n)).map D.int)) (drC salt (some (false, .lst (ns.map D.int))) x3 y4 W) := by
  obtain ⟨y4, e⟩ := draw4_go salt W (some (false, .lst (ns.map D.int))) x3 ns [] x4 (by simpa using h)
  refine ⟨y4, ?_⟩
  have e0 : evIt (evV 2) (drC salt (some (o, .lst (ns.map D.int))) x3 x4 W) = .ok (ns.map D.int) (drC salt (some (false, .lst (ns.map D.int))) x3 x4 W) := by
    cases o <;> rfl
  unfold e_draw4 evLc
  rw [e0]
  dsimp only
  rw [e]
  rfl
theorem cellsW_len (ns : List Int) : (cellsW ns).length ≤ 48 := by
  unfold cellsW
  rw [List.length_map, List.length_take]
  omega
theorem drC_own {salt : Int} {W : Wd} (i : Nat) (d : D) : (drC salt none none none W).r[i]? ≠ some (some (true, d)) := fun e => by
  rcases i with _ | _ | _ | _ | _ | i
  · cases e
  · cases e
  · cases e
  · cases e
  · cases e
  · simp [drC] at e
/-- one statement after the other, as the walk reads them -/
theorem rdS_seq {A : Am} {B : Bs} {E : XS} {f : SF} {t : TS} {D : Ends} {σ : L2.St} {H Hb : Hp} {c c1 : Cfg} (s : Sr A B Hb H σ c) (e : f c = .nx c1) (n : ∀ (σ' : L2.St) (Hb' H' : Hp), Same Hb Hb' → Sr A B Hb' H' σ' c1 → t D σ' H') : tSeq (rdS A B E f) t D σ H := by
  refine ⟨Hb, c, s, ?_⟩
  rw [e]
  exact n
theorem pure_draw {A0 : Am} {vs : List V} {H : Hp} {Q : VK} {E : XK} (h : spDraw A0 vs H Q E) :
    t_draw A0.K ⟨A0.K, none, A0.T, A0.cl, none⟩ ⟨fun _ => none, H, fun _ => False⟩ (fun _ => E) { nx := fun _ H' => Q .non H', rt := Q } (L2.start ["script", "salt", "cells", "blend", "cell"] vs) H := by
  obtain ⟨a, ns, salt, rfl, s0, s1, hS, nt, q⟩ := h
  have hst : L2.start ["script", "salt", "cells", "blend", "cell"] [.ref a, .int salt] = [some (.ref a), some (.int salt), none, none, none] := rfl
  rw [hst]
  let A : Am := ⟨A0.K, none, A0.T, A0.cl, none⟩
  let B : Bs := ⟨fun _ => none, H, fun _ => False⟩
  have st : Sr A B (fun _ => none) H [some (.ref a), some (.int salt), none, none, none] (drC salt none none none ([], 0)) := by
    refine ⟨⟨⟨fun p o e => (by cases e), fun p ps e => (by cases e), fun w e => (by cases e), nt⟩, fun p o e => e, Kept.refl _, fun p o e _ _ => e⟩, rfl, fun i d e => ?_, fun i d e => ?_, fun i j di dj b e0 _ _ _ => absurd e0 (drC_own i di), fun p z => z.elim⟩
    · rcases i with _ | _ | _ | _ | _ | i
      · cases e
      · cases e
        exact ⟨.int salt, rfl, rep_int.mpr rfl⟩
      · cases e
      · cases e
      · cases e
      · simp [drC] at e
    · exact absurd e (drC_own i d)
  refine ⟨a, ns, rfl, hS, rdS_seq (t := tSeq (rdS A B (fun _ => E) f_draw2) (tSeq (rdS A B (fun _ => E) f_draw3) (t_draw4 A0.K A B (fun _ => E)))) st (draw1_eq salt _ ns) fun σ1 Hb1 H1 e1 st1 => ?_⟩
  refine rdS_seq (t := tSeq (rdS A B (fun _ => E) f_draw3) (t_draw4 A0.K A B (fun _ => E))) st1 (draw2_eq salt _ _ _) fun σ2 Hb2 H2 e2 st2 => ?_
  obtain ⟨y4, e3⟩ := draw3_eq salt ([], 0) true (cellsW ns) (7919 + 104729 * salt)
  refine rdS_seq (t := t_draw4 A0.K A B (fun _ => E)) st2 e3 fun σ3 Hb3 H3 e3 st3 => ?_
  obtain ⟨z4, e4⟩ := draw4_eq salt ([], 0) false (cellsW ns) (some (false, .int (blendW (cellsW ns) (7919 + 104729 * salt)))) y4 (cellsW_len ns)
  refine ⟨Hb3, _, st3, ?_⟩
  rw [e4]
  intro v Hb4 H4 st4 t4 k4
  obtain ⟨l, xs, rfl, h1, h2⟩ := k4.o.lst st4.same
  refine ⟨l, xs, rfl, SqL.of h1, fun wc hc => ?_⟩
  obtain ⟨u, hu, ru⟩ := st4.sh 3 _ rfl
  obtain rfl := rep_int.mp ru
  refine ⟨_, hu, by show 2 ≤ sizeLine; decide, fun wa ha => ?_⟩
  have hx : xs = (((cellsW ns).filter fun n => decide (10 ^ 18 ≤ n)).map V.int) := h2.ints
  have ne : wa ≠ wc := fun z => by
    rw [z, upd_same] at ha
    cases ha
  rw [upd_ne ne] at ha
  have hk : LamX.ExtN H (upd (upd H4 wc (.lst xs.reverse)) wa (.lst [.ref wc, .int (blendW (cellsW ns) (7919 + 104729 * salt))])) := fun b o e hnt => by
    have e4 : H4 b = some o := st4.fin.kp.eq b o e (by rintro ⟨w, z, _⟩; cases z) hnt
    rw [upd_ne (ne_of_none e4 ha), upd_ne (ne_of_none e4 hc)]
    exact e4
  have h0 : ∀ p, H4 p = none → NtN H p := fun p hp => st4.fin.h0n hp
  have e5 : Same H4 (upd (upd H4 wc (.lst xs.reverse)) wa (.lst [.ref wc, .int (blendW (cellsW ns) (7919 + 104729 * salt))])) := fun b o e => by
    rw [upd_ne (ne_of_none e ha), upd_ne (ne_of_none e hc)]
    exact e
  refine q wa wc _ hk (st4.fin.hr.tabs.ext e5) (h0 wa ha) (h0 wc hc) ne upd_same ?_
  rw [upd_ne (Ne.symm ne), upd_same, hx]
  unfold drawW
  rw [List.map_reverse]
end
end DL
namespace DL
open PySem PySem.Spec PyProof.Rows L2
/-! ### the law's own def -/
/-- alike but for the deal -/
structure Like (A A0 : Am) : Prop where
  K : A.K = A0.K
  T : A.T = A0.T
  cl : A.cl = A0.cl
  er : A.er = none
def rdSx (A0 : Am) (E : XS) (f : SF) : TS := fun D σ H => ∃ (A : Am) (B : Bs), Like A A0 ∧ rdS A B E f D σ H
theorem pssx {X : Cx} {A0 : Am} {E : XS} {rest : List Stmt} {f : SF} (h : ∀ (A : Am) (B : Bs), Like A A0 → DSs X A B E rest f) : PSs X rest (rdSx A0 E f) := ⟨fun pins s σ H D I ⟨A, B, hA, q⟩ => (h A B hA).run pins s σ H D I q⟩
def spLaw (A0 : Am) : Sp := fun vs H Q E => ∃ (a : Addr) (ns : List Int), vs = [.ref a] ∧ SqL A0.K H a (ns.map V.int) ∧ LamX.Tabs A0.T H ∧ ∀ H', Q (.bl true) H'
theorem only_nt {H : Hp} (hO : Only H) : ∀ (b : Addr) (o : HO), H b = some o → ∀ ps, o ≠ .tbl ps := fun b o e ps z => by
  rcases hO b with h | ⟨o', xs, h⟩
  · rw [h] at e; cases e
  · rw [h] at e
    cases e
    cases z
theorem cx_none {P : Program} {w : World} {outer : List Env} {H : Hp} {s : Shared} {e : Value} {s' : Shared} (h : L2.CX P w outer H s (fun _ _ _ => False) e s') : False := by
  obtain ⟨_, _, _, _, _, _, _, _, _, _, _, _, _, z⟩ := h
/-- the law's slots behind its first statement -/
def lawC (m : Nat) (W : Wd) : Cfg := ⟨none :: some (false, .deal) :: List.replicate m none, W⟩
def t_lawDraw (A0 : Am) (E : XK) (salt : Int) : TS := tAsg (fun σ H Q => tCons (tVar 0) (tCons (tC (.int salt)) tNil) σ H fun vs H1 => spDraw A0 vs H1 Q E) (gName 1)
theorem pure_law {A0 : Am} {vs : List V} {H : Hp} {Q : VK} {E : XK} {N : List Str} {m : Nat} {salt : Int} {f : SF} (h : spLaw A0 vs H Q E) (hN : N.length = m + 2) (h0 : 0 ≤ salt) (h1 : salt < 1000)
    (hf : ∀ ns : List Int, ∃ W', f (lawC m (drawW ns salt)) = .ret false (.bl true) W') :
    tSeq (t_lawDraw A0 E salt) (rdSx A0 (fun _ => E) f) { nx := fun _ H' => Q .non H', rt := Q } (L2.start N vs) H := by
  obtain ⟨a, ns, rfl, hS, nt, q⟩ := h
  have e0 : L2.start N [.ref a] = some (.ref a) :: none :: List.replicate m none := by
    unfold L2.start
    rw [hN]
    rfl
  rw [e0]
  refine ⟨.ref a, rfl, a, ns, salt, rfl, h0, h1, hS, nt, fun wa wc H' sm tb na nc ne g1 g2 => ?_⟩
  show rdSx A0 (fun _ => E) f _ (List.set (some (.ref a) :: none :: List.replicate m none) 1 (some (.ref wa))) H'
  let A : Am := ⟨A0.K, some (wa, wc), A0.T, A0.cl, none⟩
  let B : Bs := ⟨fun _ => none, fun _ => none, fun _ => False⟩
  have st : Sr A B (fun _ => none) H' (some (.ref a) :: some (.ref wa) :: List.replicate m none) (lawC m (drawW ns salt)) := by
    refine ⟨⟨⟨fun p o e => (by cases e), fun p ps e => (by cases e), fun w e => ?_, tb⟩, fun p o e => e, ⟨fun p o e => (by cases e), fun p o e => (by cases e)⟩, fun p o _ e => (by cases e)⟩, by simp [lawC], fun i d e => ?_, fun i d e => ?_, fun i j di dj b e _ _ _ => ?_, fun p z => z.elim⟩
    · cases e
      exact ⟨g1, g2, rfl, rfl, ne⟩
    · rcases i with _ | _ | i
      · cases e
      · cases e
        refine ⟨.ref wa, rfl, ?_⟩
        unfold Rep
        exact ⟨(wa, wc), rfl, rfl⟩
      · have z : (List.replicate m none : List (Option (Bool × D)))[i]? = some (some (false, d)) := e
        rw [List.getElem?_replicate] at z
        split at z <;> cases z
    · exfalso
      rcases i with _ | _ | i
      · cases e
      · cases e
      · have z : (List.replicate m none : List (Option (Bool × D)))[i]? = some (some (true, d)) := e
        rw [List.getElem?_replicate] at z
        split at z <;> cases z
    · exfalso
      rcases i with _ | _ | i
      · cases e
      · cases e
      · have z : (List.replicate m none : List (Option (Bool × D)))[i]? = some (some (true, di)) := e
        rw [List.getElem?_replicate] at z
        split at z <;> cases z
  refine ⟨A, B, ⟨rfl, rfl, rfl, rfl⟩, fun _ => none, _, st, ?_⟩
  obtain ⟨W', e⟩ := hf ns
  rw [e]
  intro v Hb' H2 _ r
  have z : v = .bl true := (rep_bl (A := A) (H := Hb')).mp r
  subst z
  exact q H2
end DL
namespace DL
open PySem PySem.Spec PyProof.Rows L2
section
variable {prog : Program} {w : World} {A : Around} {E : Value → Shared → Prop} {s : Shared}
/-- the heap behind collect(x), x of the items vs -/
def colH (h : Heap) (vs : List Value) : Heap := (h.push (seqObj "list" #[] 0)).update h.objs.size (Obj.mapSeq (· ++ vs.toArray))
theorem collect_tup {l : Addr} {vs : List Value} {Q : List Value → Shared → Prop} (hl : s.heap.IsTuple l vs.toArray) (h : Q vs { s with heap := colH s.heap vs }) (hsz : vs.length ≤ sizeLine) : wpAny (model prog w) A (collect (.ref l)) Q E s := by
  obtain ⟨o, ho, hc, n, hd⟩ := id hl
  unfold collect
  refine wpAny_bind (wpAny_runValue (codeAny_builtin entry_proto_collect' ?_))
  show wpAny _ _ (do again (.builtin "list.__iadd__" ⟨[← newList [], .ref l], []⟩)) _ _ s
  refine wpAny_bind (wpAny_newList (wpAny_pure ⟨Code.quiet_builtin _ (by decide +kernel), codeAny_builtin entry_list_iadd' ?_⟩))
  show wpAny _ _ (Builtin.List.listExtendWith (.ref s.heap.objs.size) (.ref l) (.ref s.heap.objs.size)) _ _ { s with heap := s.heap.push (seqObj "list" #[] 0) }
  unfold Builtin.List.listExtendWith
  have ho' : (s.heap.push (seqObj "list" #[] 0)).get? l = some o := Heap.get?_push_of_some _ ho
  refine wpAny_bind (wpAny_typeOf (T := "tuple") ⟨o, ho', hc⟩ ?_)
  have ht : (Value.type "tuple" == Value.type "tuple") = true := by rfl
  rw [if_pos (by rw [ht]; simp)]
  refine wpAny_bind (listItems_at ho' hd ?_)
  refine wpAny_bind (listItems_at (xs := #[]) (n := 0) (Heap.get?_push_size _ rfl) rfl ?_)
  rw [if_neg (by simp)]
  refine wpAny_bind (listUpdate_at (xs := #[]) (n := 0) (Heap.get?_push_size _ rfl) rfl ?_ (Nat.zero_le _) (by show (#[] ++ vs.toArray).size ≤ sizeLine + 1; simp only [Array.size_append, List.size_toArray, List.length_nil]; omega))
  refine wpAny_pure ?_
  show wpAny (model prog w) A (do
      let o ← load s.heap.objs.size
      match o.data with
      | .seq xs _ => pure xs.toList
      | _ => unsupported "internal:collect") Q E { s with heap := colH s.heap vs }
  refine wpAny_bind (wpAny_load (get?_update_seq (Heap.get?_push_size _ rfl) _) ?_)
  show wpAny _ _ (pure ((#[] : Array Value) ++ vs.toArray).toList) Q E _
  rw [show ((#[] : Array Value) ++ vs.toArray).toList = vs by simp]
  exact wpAny_pure h
theorem sorted_tupI {l : Addr} {vs : List Value} {ns : List Int} {Q : Value → Shared → Prop} (hl : s.heap.IsTuple l vs.toArray) (hz : vs.length ≤ sizeLine) (hi : IntsAre vs ns)
    (h : ∀ out : List Value, SrtO.Srtd SrtO.ltIv out → SrtO.Stb SrtO.ltIv out vs → Q (.ref (s.heap.objs.size + 1)) { s with heap := sortedAll s.heap vs out.toArray }) : wpAny (model prog w) A (call (.builtin "sorted") [.ref l]) Q E s := by
  refine Calls.call_function_entry kind_sorted plain_sorted entry_sorted (args_sorted1 _) ?_
  unfold Builtin.«sorted»
  refine wpAny_bind (m := checkCount "sorted" 1 1 _) (wpAny_pure ?_)
  refine wpAny_bind (collect_tup hl ?_ hz)
  refine wpAny_bind (wpAny_newList ?_ hz)
  have e1 : (colH s.heap vs).objs.size = s.heap.objs.size + 1 := by
    unfold colH
    rw [Heap.size_update, size_push']
  have e2 : ((colH s.heap vs).push (seqObj "list" vs.toArray 0)).get? (s.heap.objs.size + 1) = some (seqObj "list" vs.toArray 0) := by
    rw [← e1]
    exact Heap.get?_push_size _ rfl
  show wpAny _ _ _ _ _ { s with heap := (colH s.heap vs).push (seqObj "list" vs.toArray 0) }
  rw [e1]
  refine wpAny_bind (wpAny_holding (wpAny_call_entry slot_list_sort ⟨_, e2, rfl⟩ entry_list_sort (SrtO.list_sort_ord SrtO.swo_int e2 hz (fun h2 => SrtO.ints_sortable hi h2) fun out h1 h2 => ⟨_, rfl, ?_⟩) (args_list_sort _)))
  exact wpAny_pure ⟨_, rfl, h out h1 h2⟩
end
section
variable {X : Cx} {A : Am} {B : Bs} {E : XS} {Hb H Hb1 H1 : Hp} {σ : List (Option V)} {c c1 : Cfg} {fa fb fc ft fe : EF} {f g : SF} {De : Ends} {ga gb : AF}
def rSortedTI : List V → Hp → VK → Prop := fun vs H Q => ∃ (a : Addr) (ns : List Int), vs = [V.ref a] ∧ H a = some (.tup (ns.map V.int)) ∧ ∀ (ns' : List Int) (p : Addr), ns'.Perm ns → ns'.Pairwise (· ≤ ·) → H p = none → Q (.ref p) (upd H p (.lst (ns'.map V.int)))
theorem cr_sortedTI : CallR X (.builtin "sorted") rSortedTI := by
  intro pins s σ H vs us Q I r h
  obtain ⟨a, ns, rfl, ha, q⟩ := h
  obtain ⟨u, rfl, ru⟩ := r.one
  obtain rfl : u = Value.ref a := ru
  obtain ⟨hz, its, rv, ht⟩ := I.hok a _ ha
  have ht' : s.heap.IsTuple a its.toArray := ht
  have hi := rv.ints
  refine sorted_tupI ht' (by rw [← rv.length]; exact hz) hi fun out h1 h2 => ?_
  obtain ⟨k1, k2, k3⟩ := SrtO.ints_out hi h1 h2
  obtain ⟨ep, he'⟩ := PyProof.Rows.sortedAll_at s.heap its out.toArray
  have hlen : ((out.map SrtO.iv).map V.int).length ≤ sizeLine := by
    rw [List.length_map, k2.length_eq]
    rw [List.length_map] at hz
    exact hz
  exact ⟨.ref _, upd H (s.heap.objs.size + 1) (.lst ((out.map SrtO.iv).map V.int)), I.laid (t' := s.toks) (fun _ _ => PyProof.Rows.sortedAll_old) (Nat.le_succ _) ⟨hlen, out, ep, vals_of_ints k1, he'⟩, rfl, q _ _ k2 k3 (I.hok.fresh (Nat.le_succ _))⟩
def rSumT : List V → Hp → VK → Prop := fun vs H Q => ∃ (a : Addr) (ns : List Int), vs = [V.ref a] ∧ H a = some (.tup (ns.map V.int)) ∧ Q (.int ns.sum) H
theorem cr_sumT (hc : X.calm = true) : CallR X (.builtin "sum") rSumT := by
  intro pins s σ H vs us Q I r h
  obtain ⟨a, ns, rfl, ha, q⟩ := h
  obtain ⟨u, rfl, ru⟩ := r.one
  obtain rfl : u = Value.ref a := ru
  obtain ⟨hz, its, rv, ht⟩ := I.hok a _ ha
  have ht' : s.heap.IsTuple a its.toArray := ht
  have hi := rv.ints
  obtain ⟨xs, e⟩ := hi.allInts.items
  have hn : numsOf (intItems xs).toList = ns := by rw [← e]; exact hi.numsOf
  rw [nums_intItems] at hn
  rw [e] at ht'
  refine PySem.W.ktm_sumG (I.ok.hd hc) ht' fun h' tk t' hk => ?_
  rw [preSum_eq, List.take_of_length_le (by simp), hn]
  exact ⟨.int ns.sum, H, I.kept (t' := tk) hk, ⟨_, rfl⟩, q⟩
def gOnT (g : List Int → Option (Kd × D)) : D → Option (Kd × D)
  | .tup ds => (intsD ds).bind g
  | _ => none
theorem gOnT_inv {g : List Int → Option (Kd × D)} {d : D} {k : Kd} {e : D} (h : gOnT g d = some (k, e)) : ∃ ns, d = .tup (ns.map D.int) ∧ g ns = some (k, e) := by
  cases d with
  | tup ds =>
    replace h : (intsD ds).bind g = some (k, e) := h
    cases ei : intsD ds with
    | none => rw [ei] at h; cases h
    | some ns =>
      rw [ei] at h
      exact ⟨ns, by rw [intsD_eq ei], h⟩
  | _ => cases h
theorem oT {ns : List Int} {x : V} (s : Sr A B Hb H σ c) (hx : RepO A Hb H (.tup (ns.map D.int)) x) : ∃ a, x = V.ref a ∧ H a = some (.tup (ns.map V.int)) := by
  obtain ⟨a, xs, rfl, h1, h2⟩ := hx.tup
  rw [h2.ints] at h1
  exact ⟨a, rfl, s.same _ _ h1⟩
def gSumT := gOnT fun ns => some (.st, .int ns.sum)
theorem cd_sumT (hc : X.calm = true) : CaD1 X A (.builtin "sum") gSumT := by
  refine ⟨_, cr_sumT hc, fun B Hb H σ c da x k d Q s hx e q => ?_⟩
  obtain ⟨ns, rfl, e1⟩ := gOnT_inv e
  cases e1
  obtain ⟨a, rfl, h1⟩ := oT s hx
  exact ⟨a, ns, rfl, h1, q _ Hb H s .refl rk_int⟩
def gSortedT := gOnT fun ns => some (.fr, .lst ((sortI ns).map D.int))
theorem cd_sortedT : CaD1 X A (.builtin "sorted") gSortedT := by
  refine ⟨_, cr_sortedTI, fun B Hb H σ c da x k d Q s hx e q => ?_⟩
  obtain ⟨ns, rfl, e1⟩ := gOnT_inv e
  cases e1
  obtain ⟨a, rfl, h1⟩ := oT s hx
  refine ⟨a, ns, rfl, h1, fun ns' p hp ho hn => ?_⟩
  have : ns' = sortI ns := PySem.W.ksm_same (hp.trans (sortI_perm ns).symm) ho (sortI_ord ns)
  subst this
  obtain ⟨s4, t4, r4⟩ := s.newLst hn (RepL.of_ints (A := A) (H := Hb) (sortI ns))
  exact q _ _ _ s4 t4 r4
def gSumA : D → Option (Kd × D) := fun a => (gSum a).orElse fun _ => gSumT a
def gSortedA : D → Option (Kd × D) := fun a => (gSorted a).orElse fun _ => gSortedT a
theorem cd_sumA (hc : X.calm = true) : CaD1 X A (.builtin "sum") gSumA := (cd_sum hc).or (cd_sumT hc)
theorem cd_sortedA : CaD1 X A (.builtin "sorted") gSortedA := cd_sorted.or cd_sortedT
end
end DL
namespace DL
open PySem PySem.Spec PyProof.Rows L2
/-! ### what comes of an evaluator: by rules -/
abbrev QE := Kd → D → Cfg → Prop
abbrev QA := List D → Cfg → Prop
abbrev QC := Cfg → Prop
abbrev QR := Bool → D → Wd → Prop
abbrev QX := XD → Cfg → Prop
abbrev QXF := XD → Wd → Prop
/-- shut: what is inside is not run -/
structure Lk (p : Prop) : Prop where
  h : p
def wpE (r : ER) (Q : QE) (X : QX) : Prop := Lk (match r with
  | .ok k d c => Q k d c
  | .exc x W => X x W
  | .bad => False)
def wpA (r : AR) (Q : QA) (X : QX) : Prop := Lk (match r with
  | .ok ds c => Q ds c
  | .exc x W => X x W
  | .bad => False)
def wpV (r : OR) (Q : Option Int → Cfg → Prop) (X : QX) : Prop := Lk (match r with
  | .ok o c => Q o c
  | .exc x W => X x W
  | .bad => False)
def wpO (o : Option (Kd × D)) (Q : Kd → D → Prop) : Prop := ∃ k d, o = some (k, d) ∧ Q k d
def wpC (o : Option Cfg) (Q : QC) : Prop := ∃ c, o = some c ∧ Q c
def wpF (r : FR) (Q : QR) (X : QXF) : Prop := Lk (match r with
  | .ret fr d W => Q fr d W
  | .exc x W => X x W
  | .bad => False)
/-- next, what is returned, break, continue, an error -/
structure QS where
  n : QC
  r : QR
  b : QC
  c : QC
  x : QX
def wpS (r : SR) (Q : QS) : Prop := Lk (match r with
  | .nx c => Q.n c
  | .ret fr d W => Q.r fr d W
  | .brk c => Q.b c
  | .cnt c => Q.c c
  | .exc x W => Q.x x W
  | .bad => False)
section
variable {c c1 : Cfg} {r : List (Option (Bool × D))} {W W' : Wd} {i j n : Nat} {d d1 d2 : D} {b : Bool} {k : Kd} {ds : List D} {fa fb fc ft fe : EF} {ga gb it : AF} {f g body : SF} {Q : QE} {N BB CC : QC} {R : QR} {X : QX} {QL : QA}
theorem wpE.imp {r : ER} {Q' : QE} (h : wpE r Q X) (i : ∀ k d c, Q k d c → Q' k d c) : wpE r Q' X := by
  cases r with
  | ok k d c => exact ⟨i k d c h.h⟩
  | exc x W => exact h
  | bad => exact h
theorem wpF.imp {r : FR} {X : QXF} {Q Q' : QR} (h : wpF r Q X) (i : ∀ k d c, Q k d c → Q' k d c) : wpF r Q' X := by
  cases r with
  | ret k d c => exact ⟨i k d c h.h⟩
  | exc x W => exact h
  | bad => exact h
theorem wpF_of {X : QXF} {r : FR} {fr : Bool} {Q : QR} (h : r = .ret fr d W) (q : Q fr d W) : wpF r Q X := by rw [h]; exact ⟨q⟩
theorem wpF_ofX {X : QXF} {r : FR} {x : XD} {Q : QR} (h : r = .exc x W) (q : X x W) : wpF r Q X := by rw [h]; exact ⟨q⟩
theorem ret_of {r : FR} {fr : Bool} (h : wpF r (fun fr' d' W' => fr' = fr ∧ d' = d ∧ W' = W) (fun _ _ => False)) : r = .ret fr d W := by
  cases r with
  | ret k d c => obtain ⟨rfl, rfl, rfl⟩ := h; rfl
  | exc x W => exact h.h.elim
  | bad => exact h.h.elim
theorem exc_of {r : FR} {x : XD} (h : wpF r (fun _ _ _ => False) (fun x' W' => x' = x ∧ W' = W)) : r = .exc x W := by
  cases r with
  | ret k d c => exact h.h.elim
  | exc x W => obtain ⟨rfl, rfl⟩ := h; rfl
  | bad => exact h.h.elim
/-- a spec of results of one kind -/
theorem wpF_ex {r : FR} {Q : QR} (h : wpF r Q (fun _ _ => False)) : ∃ fr d W, r = .ret fr d W ∧ Q fr d W := by
  cases r with
  | ret k d c => exact ⟨_, _, _, rfl, h.h⟩
  | exc x W => exact h.h.elim
  | bad => exact h.h.elim
/-! leaves -/
theorem wE_evV_s (h : r[i]? = some (some (false, d))) (q : Q .st d ⟨r, W⟩) : wpE (evV i ⟨r, W⟩) Q X := by
  unfold evV wpE
  simp only [h]
  exact ⟨q⟩
theorem wE_evV_o {r' : List (Option (Bool × D))} (h : r[i]? = some (some (true, d))) (hr : r.set i (some (false, d)) = r') (q : Q .st d ⟨r', W⟩) : wpE (evV i ⟨r, W⟩) Q X := by
  subst hr
  unfold evV wpE
  simp only [h]
  exact ⟨q⟩
theorem wE_evB (h : r[i]? = some (some (b, d))) (q : Q .bo d ⟨r, W⟩) : wpE (evB i ⟨r, W⟩) Q X := by
  unfold evB wpE
  simp only [h]
  exact ⟨q⟩
theorem wE_evM_s (h : r[i]? = some (some (false, d))) (q : Q .st d ⟨r, W⟩) : wpE (evM i ⟨r, W⟩) Q X := by
  unfold evM wpE
  simp only [h]
  exact ⟨q⟩
theorem wE_evM_o {r' : List (Option (Bool × D))} (h : r[i]? = some (some (true, d))) (hr : r.set i none = r') (q : Q .fr d ⟨r', W⟩) : wpE (evM i ⟨r, W⟩) Q X := by
  subst hr
  unfold evM wpE
  simp only [h]
  exact ⟨q⟩
theorem wE_evC (q : Q .st d c) : wpE (evC d c) Q X := ⟨q⟩
/-! expressions -/
theorem wE_ofO {o : Option (Kd × D)} (h : wpO o (fun k d => Q k d c)) : wpE (ofO c o) Q X := by
  obtain ⟨k, d, rfl, q⟩ := h
  exact ⟨q⟩
theorem wE_ev1 {g : D → Option (Kd × D)} (h : wpE (fa c) (fun _ d c1 => wpO (g d) fun k d' => Q k d' c1) X) : wpE (ev1 g fa c) Q X := by
  unfold ev1
  cases e : fa c with
  | ok k d c1 =>
    rw [e] at h
    exact wE_ofO h.h
  | exc x W => rw [e] at h; exact h
  | bad => rw [e] at h; exact h
theorem wE_bind {r : ER} {K : Kd → D → Cfg → ER} (h : wpE r (fun k d c1 => wpE (K k d c1) Q X) X) : wpE (r.bind K) Q X := by
  cases r with
  | ok k d c1 => exact h.h
  | exc x W => exact h
  | bad => exact h
theorem wE_ev2 {g : D → D → Option (Kd × D)} (h : wpE (fa c) (fun _ d1 c1 => wpE (fb c1) (fun _ d2 c2 => wpO (g d1 d2) fun k d' => Q k d' c2) X) X) : wpE (ev2 g fa fb c) Q X := by
  unfold ev2
  exact wE_bind (h.imp fun k d c1 q => wE_bind (q.imp fun k2 d2 c2 q2 => wE_ofO q2))
/-- looked at -/
def seqD : D → Option (List D)
  | .lst ds => some ds
  | .tup ds => some ds
  | _ => none
def lstD : D → Option (List D)
  | .lst ds => some ds
  | _ => none
def tupD : D → Option (List D)
  | .tup ds => some ds
  | _ => none
def intD : D → Option Int
  | .int i => some i
  | _ => none
def blD : D → Option Bool
  | .bl b => some b
  | _ => none
theorem seqD_eq (h : seqD d = some ds) : d = .lst ds ∨ d = .tup ds := by cases d <;> first | (cases h; done) | (cases h; exact .inl rfl) | (cases h; exact .inr rfl)
theorem lstD_eq (h : lstD d = some ds) : d = .lst ds := by cases d <;> first | (cases h; done) | (cases h; rfl)
theorem tupD_eq (h : tupD d = some ds) : d = .tup ds := by cases d <;> first | (cases h; done) | (cases h; rfl)
theorem intD_eq {i : Int} (h : intD d = some i) : d = .int i := by cases d <;> first | (cases h; done) | (cases h; rfl)
theorem blD_eq (h : blD d = some b) : d = .bl b := by cases d <;> first | (cases h; done) | (cases h; rfl)
/-- what is asked of a value -/
def isBl (d : D) (P : Bool → Prop) : Prop := ∃ b, d = .bl b ∧ P b
def isInt (d : D) (P : Int → Prop) : Prop := ∃ i, d = .int i ∧ P i
def isTru (d : D) (P : Bool → Prop) : Prop := ∃ b, truD d = some b ∧ P b
def lenB (ds : List D) (P : Prop) : Prop := ds.length ≤ 1000000 ∧ P
def in62 (i : Int) (P : Prop) : Prop := (-(2 ^ 62) ≤ i ∧ i < 2 ^ 62) ∧ P
def inM (i : Int) (P : Prop) : Prop := (-(2 ^ 62) ≤ i ∧ i ≤ 1000000) ∧ P
theorem isBl_i {P : Bool → Prop} (hd : blD d = some b) (h : P b) : isBl d P := ⟨b, blD_eq hd, h⟩
theorem isInt_i {P : Int → Prop} {i : Int} (hd : intD d = some i) (h : P i) : isInt d P := ⟨i, intD_eq hd, h⟩
theorem isTru_i {P : Bool → Prop} (hd : truD d = some b) (h : P b) : isTru d P := ⟨b, hd, h⟩
theorem lenB_i {P : Prop} (h : ds.length ≤ 1000000) (q : P) : lenB ds P := ⟨h, q⟩
theorem in62_i {P : Prop} {i : Int} (h1 : -(2 ^ 62) ≤ i) (h2 : i < 2 ^ 62) (q : P) : in62 i P := ⟨⟨h1, h2⟩, q⟩
theorem inM_i {P : Prop} {i : Int} (h1 : -(2 ^ 62) ≤ i) (h2 : i ≤ 1000000) (q : P) : inM i P := ⟨⟨h1, h2⟩, q⟩
/-- a bool, by cases -/
def onBl (d : D) (T F : Prop) : Prop := ∃ b, d = .bl b ∧ (b = true → T) ∧ (b = false → F)
theorem wE_ev3 {g g' : D → D → Option (Kd × D)} (h : wpE (fa c) (fun _ d1 c1 => wpE (fb c1) (fun _ d2 c2 => wpO (g d1 d2) fun _ t => onBl t (wpE (fc c2) (fun _ d3 c3 => wpO (g' d2 d3) fun k d' => Q k d' c3) X) (Q .st (.bl false) c2)) X) X) : wpE (ev3 g g' fa fb fc c) Q X := by
  unfold ev3
  refine wE_bind (h.imp fun k d c1 q => wE_bind (q.imp fun k2 d2 c2 q2 => ?_))
  obtain ⟨kk, dd, e, b, rfl, h2, h1⟩ := q2
  rw [e]
  cases b with
  | false => exact ⟨h1 rfl⟩
  | true => exact wE_bind ((h2 rfl).imp fun k3 d3 c3 q3 => wE_ofO q3)
theorem wE_tup (h : wpA (ga c) (fun ds c1 => lenB ds (Q .st (.tup ds) c1)) X) : wpE (evTup ga c) Q X := by
  unfold evTup
  cases e : ga c with
  | ok ds c1 =>
    rw [e] at h
    obtain ⟨h1, h2⟩ := h
    rw [abind_ok, if_pos (show ds.length ≤ big from h1)]
    exact ⟨h2⟩
  | exc x W => rw [e] at h; exact h
  | bad => rw [e] at h; exact h
theorem wE_lst (h : wpA (ga c) (fun ds c1 => lenB ds (Q .fr (.lst ds) c1)) X) : wpE (evLst ga c) Q X := by
  unfold evLst
  cases e : ga c with
  | ok ds c1 =>
    rw [e] at h
    obtain ⟨h1, h2⟩ := h
    rw [abind_ok, if_pos (show ds.length ≤ big from h1)]
    exact ⟨h2⟩
  | exc x W => rw [e] at h; exact h
  | bad => rw [e] at h; exact h
theorem wA_nil (q : QL [] c) : wpA (evNil c) QL X := ⟨q⟩
theorem wA_cons (h : wpE (fa c) (fun k d c1 => k ≠ .bo ∧ wpA (ga c1) (fun ds c2 => QL (d :: ds) c2) X) X) : wpA (evCons fa ga c) QL X := by
  unfold evCons
  cases e : fa c with
  | ok k d c1 =>
    rw [e] at h
    obtain ⟨h1, h2⟩ := h
    have key : wpA ((ga c1).cons d) QL X := by
      cases e2 : ga c1 with
      | ok ds c2 => rw [e2] at h2; exact h2
      | exc x W => rw [e2] at h2; exact h2
      | bad => rw [e2] at h2; exact h2
    cases k with
    | bo => exact absurd rfl h1
    | st => exact key
    | fr => exact key
  | exc x W => rw [e] at h; exact h
  | bad => rw [e] at h; exact h
theorem st_nb : Kd.st ≠ .bo := by intro h; cases h
theorem fr_nb : Kd.fr ≠ .bo := by intro h; cases h
theorem wE_if (h : wpE (ft c) (fun _ d c1 => onBl d (wpE (fa c1) Q X) (wpE (fb c1) Q X)) X) : wpE (evIf ft fa fb c) Q X := by
  unfold evIf
  refine wE_bind (h.imp fun k d c1 q => ?_)
  obtain ⟨b, rfl, h1, h2⟩ := q
  cases b with
  | true => exact h1 rfl
  | false => exact h2 rfl
theorem wE_and (h : wpE (fa c) (fun _ d c1 => onBl d (wpE (fb c1) Q X) (Q .st (.bl false) c1)) X) : wpE (evAnd fa fb c) Q X := by
  unfold evAnd
  refine wE_bind (h.imp fun k d c1 q => ?_)
  obtain ⟨b, rfl, h1, h2⟩ := q
  cases b with
  | true => exact h1 rfl
  | false => exact ⟨h2 rfl⟩
theorem wE_or (h : wpE (fa c) (fun _ d c1 => onBl d (Q .st (.bl true) c1) (wpE (fb c1) Q X)) X) : wpE (evOr fa fb c) Q X := by
  unfold evOr
  refine wE_bind (h.imp fun k d c1 q => ?_)
  obtain ⟨b, rfl, h1, h2⟩ := q
  cases b with
  | true => exact ⟨h1 rfl⟩
  | false => exact h2 rfl
theorem wE_not (h : wpE (fa c) (fun _ d c1 => isBl d fun b => Q .st (.bl (!b)) c1) X) : wpE (evNot fa c) Q X := by
  unfold evNot
  refine wE_bind (h.imp fun k d c1 q => ?_)
  obtain ⟨b, rfl, h1⟩ := q
  exact ⟨h1⟩
theorem wE_tru (h : wpE (fa c) (fun _ d c1 => isTru d fun b => Q .st (.bl b) c1) X) : wpE (evTru fa c) Q X := by
  unfold evTru
  refine wE_bind (h.imp fun k d c1 q => ?_)
  obtain ⟨b, e, h1⟩ := q
  rw [e]
  exact ⟨h1⟩
theorem wE_neg (h : wpE (fa c) (fun _ d c1 => isInt d fun i => Q .st (.int (-i)) c1) X) : wpE (evNeg fa c) Q X := by
  unfold evNeg
  refine wE_bind (h.imp fun k d c1 q => ?_)
  obtain ⟨b, rfl, h1⟩ := q
  exact ⟨h1⟩
theorem abind_w {r : AR} {K : List D → Cfg → ER} (h : wpA r (fun ds c1 => wpE (K ds c1) Q X) X) : wpE (r.bind K) Q X := by
  cases r with
  | ok ds c1 => exact h.h
  | exc x W => exact h
  | bad => exact h
theorem wpA.imp {r : AR} {QL' : QA} (h : wpA r QL X) (i : ∀ ds c, QL ds c → QL' ds c) : wpA r QL' X := by
  cases r with
  | ok ds c1 => exact ⟨i _ _ h.h⟩
  | exc x W => exact h
  | bad => exact h
def frK (fr : Bool) : Kd := if fr then .fr else .st
def callK (n : Nat) (F : FF) (Q : QE) (X : QX) (ds : List D) (c : Cfg) : Prop := ds.length = n ∧ wpF (F ds c.W) (fun fr d W' => Q (frK fr) d ⟨c.r, W'⟩) (fun x W' => X x ⟨c.r, W'⟩)
theorem call_st {F : FF} (h : Nat.beq ds.length n = true) (q : wpF (F ds W) (fun fr d W' => Q (frK fr) d ⟨r, W'⟩) (fun x W' => X x ⟨r, W'⟩)) : callK n F Q X ds ⟨r, W⟩ := ⟨Nat.eq_of_beq_eq_true h, q⟩
theorem wE_call {F : FF} (h : wpA (ga c) (callK n F Q X) X) : wpE (evCall n F ga c) Q X := by
  unfold evCall
  refine abind_w (h.imp fun ds c1 q => ?_)
  obtain ⟨h1, h2⟩ := q
  rw [if_pos h1]
  cases e : F ds c1.W with
  | ret fr d W => rw [e] at h2; exact h2
  | exc x W => rw [e] at h2; exact h2
  | bad => rw [e] at h2; exact h2
theorem wE_callK {F : FF} {n1 n2 : Nat} {π : List Nat} {gk : AF} (h : wpA (ga c) (fun ds c1 => ds.length = n1 ∧ wpA (gk c1) (fun es c2 => es.length = n2 ∧ callK n F Q X (permL π (ds ++ es)) c2) X) X) : wpE (evCallK n n1 n2 π F ga gk c) Q X := by
  unfold evCallK
  refine abind_w (h.imp fun ds c1 q => ?_)
  obtain ⟨h1, h2⟩ := q
  refine abind_w (h2.imp fun es c2 q2 => ?_)
  obtain ⟨h3, h4, h5⟩ := q2
  rw [if_pos ⟨h1, h3⟩, if_pos h4]
  cases e : F (permL π (ds ++ es)) c2.W with
  | ret fr d W => rw [e] at h5; exact h5
  | exc x W => rw [e] at h5; exact h5
  | bad => rw [e] at h5; exact h5
theorem wE_bad (h : False) : wpE (evBad c) Q X := ⟨h⟩
/-! slices -/
theorem wV_none {QV : Option Int → Cfg → Prop} (q : QV none c) : wpV (evON c) QV X := ⟨q⟩
theorem wV_some {QV : Option Int → Cfg → Prop} (h : wpE (fa c) (fun _ d c1 => isInt d fun i => QV (some i) c1) X) : wpV (evOS fa c) QV X := by
  unfold evOS
  cases e : fa c with
  | ok k d c1 =>
    rw [e] at h
    obtain ⟨i, rfl, q⟩ := h
    exact ⟨q⟩
  | exc x W => rw [e] at h; exact h
  | bad => rw [e] at h; exact h
theorem wV_bind {r : OR} {K : Option Int → Cfg → ER} (h : wpV r (fun k c1 => wpE (K k c1) Q X) X) : wpE (r.bind K) Q X := by
  cases r with
  | ok k c1 => exact h.h
  | exc x W => exact h
  | bad => exact h
theorem wpV.imp {r : OR} {QV QV' : Option Int → Cfg → Prop} (h : wpV r QV X) (i : ∀ ds c, QV ds c → QV' ds c) : wpV r QV' X := by
  cases r with
  | ok ds c1 => exact ⟨i _ _ h.h⟩
  | exc x W => exact h
  | bad => exact h
theorem wE_sl {fl fh : OF} (h : wpE (fa c) (fun _ d c1 => wpV (fl c1) (fun l c2 => wpV (fh c2) (fun h c3 => wpO (gSl d l h) fun k d' => Q k d' c3) X) X) X) : wpE (evSl fa fl fh c) Q X := by
  unfold evSl
  exact wE_bind (h.imp fun k d c1 q => wV_bind (q.imp fun l c2 q2 => wV_bind (q2.imp fun h c3 q3 => wE_ofO q3)))
theorem wE_LRg (h : wpE (fa c) (fun _ d c1 => isInt d fun i => inM i (Q .fr (.lst (rngD 0 i.toNat)) c1)) X) : wpE (evLRg fa c) Q X := by
  unfold evLRg
  refine wE_bind (h.imp fun k d c1 q => ?_)
  obtain ⟨i, rfl, ⟨h1, h2⟩, h3⟩ := q
  dsimp only
  rw [if_pos h1]
  unfold gLRg
  dsimp only
  rw [if_pos (show i ≤ (big : Int) from h2)]
  exact ⟨h3⟩
theorem wE_TRg (h : wpE (fa c) (fun _ d c1 => isInt d fun i => inM i (Q .st (.tup (rngD 0 i.toNat)) c1)) X) : wpE (evTRg fa c) Q X := by
  unfold evTRg
  refine wE_bind (h.imp fun k d c1 q => ?_)
  obtain ⟨i, rfl, ⟨h1, h2⟩, h3⟩ := q
  dsimp only
  rw [if_pos h1]
  unfold gTRg
  dsimp only
  rw [if_pos (show i ≤ (big : Int) from h2)]
  exact ⟨h3⟩
/-! statements -/
theorem toS_w {r : ER} {K : Kd → D → Cfg → SR} (h : wpE r (fun k d c1 => wpS (K k d c1) ⟨N, R, BB, CC, X⟩) X) : wpS (r.toS K) ⟨N, R, BB, CC, X⟩ := by
  cases r with
  | ok k d c1 => exact h.h
  | exc x W => exact h
  | bad => exact h
theorem wS_seq (h : wpS (f c) ⟨fun c1 => wpS (g c1) ⟨N, R, BB, CC, X⟩, R, BB, CC, X⟩) : wpS (sSeq f g c) ⟨N, R, BB, CC, X⟩ := by
  unfold sSeq
  cases e : f c with
  | nx c1 => rw [e] at h; exact h.h
  | ret fr d W => rw [e] at h; exact h
  | brk c1 => rw [e] at h; exact h
  | cnt c1 => rw [e] at h; exact h
  | exc x W => rw [e] at h; exact h
  | bad => rw [e] at h; exact h
theorem wS_nil (q : N c) : wpS (sNil c) ⟨N, R, BB, CC, X⟩ := ⟨q⟩
theorem wS_putS {r' : List (Option (Bool × D))} (h : i < r.length) (hr : r.set i (some (false, d)) = r') (q : N ⟨r', W⟩) : wpS (putK i .st d ⟨r, W⟩) ⟨N, R, BB, CC, X⟩ := by
  subst hr
  unfold putK
  rw [if_pos h]
  exact ⟨q⟩
theorem wS_putF {r' : List (Option (Bool × D))} (h : i < r.length) (hr : r.set i (some (true, d)) = r') (q : N ⟨r', W⟩) : wpS (putK i .fr d ⟨r, W⟩) ⟨N, R, BB, CC, X⟩ := by
  subst hr
  unfold putK
  rw [if_pos h]
  exact ⟨q⟩
theorem wS_set (h : wpE (fa c) (fun k d c1 => wpS (putK i k d c1) ⟨N, R, BB, CC, X⟩) X) : wpS (sSet i fa c) ⟨N, R, BB, CC, X⟩ := toS_w h
theorem wS_drop (h : wpE (fa c) (fun k d c1 => N c1) X) : wpS (sDrop fa c) ⟨N, R, BB, CC, X⟩ := toS_w (h.imp fun _ _ _ q => ⟨q⟩)
def retK (R : QR) (k : Kd) (d : D) (c : Cfg) : Prop := k ≠ .bo ∧ R (match k with | .fr => true | _ => false) d c.W
theorem ret_st {R : QR} (q : R false d W) : retK R .st d ⟨r, W⟩ := ⟨st_nb, q⟩
theorem ret_fr {R : QR} (q : R true d W) : retK R .fr d ⟨r, W⟩ := ⟨fr_nb, q⟩
theorem wS_ret (h : wpE (fa c) (retK R) X) : wpS (sRet fa c) ⟨N, R, BB, CC, X⟩ := by
  unfold sRet
  refine toS_w (h.imp fun k d c1 q => ?_)
  cases k with
  | st => exact ⟨q.2⟩
  | fr => exact ⟨q.2⟩
  | bo => exact absurd rfl q.1
theorem wS_retN (h : R false .non c.W) : wpS (sRetN c) ⟨N, R, BB, CC, X⟩ := ⟨h⟩
theorem wS_if (h : wpE (ft c) (fun _ d c1 => onBl d (wpS (f c1) ⟨N, R, BB, CC, X⟩) (wpS (g c1) ⟨N, R, BB, CC, X⟩)) X) : wpS (sIf ft f g c) ⟨N, R, BB, CC, X⟩ := by
  unfold sIf
  refine toS_w (h.imp fun k d c1 q => ?_)
  obtain ⟨b, rfl, h1, h2⟩ := q
  cases b with
  | true => exact h1 rfl
  | false => exact h2 rfl
theorem wS_brk (q : BB c) : wpS (sBrk c) ⟨N, R, BB, CC, X⟩ := ⟨q⟩
theorem wS_cnt (q : CC c) : wpS (sCnt c) ⟨N, R, BB, CC, X⟩ := ⟨q⟩
def appK (i : Nat) (N : QC) (k : Kd) (d : D) (c1 : Cfg) : Prop := k ≠ .bo ∧ ∃ ds, ownL c1 i = some ds ∧ ds.length < 1000000 ∧ ∃ r', c1.r.set i (some (true, .lst (ds ++ [d]))) = r' ∧ N ⟨r', c1.W⟩
theorem app_st {r' : List (Option (Bool × D))} (hk : k ≠ .bo) (h1 : ownL ⟨r, W⟩ i = some ds) (h2 : ds.length < 1000000) (h3 : r.set i (some (true, .lst (ds ++ [d]))) = r') (q : N ⟨r', W⟩) : appK i N k d ⟨r, W⟩ := ⟨hk, ds, h1, h2, r', h3, q⟩
theorem wS_app (h0 : (ownL c i).isSome) (h : wpE (fe c) (appK i N) X) : wpS (sApp i fe c) ⟨N, R, BB, CC, X⟩ := by
  unfold sApp
  rw [if_pos h0]
  refine toS_w (h.imp fun k d c1 q => ?_)
  obtain ⟨h1, ds, e, hl, r', rfl, q1⟩ := q
  have key : wpS (match ownL c1 i with
    | some ds => if ds.length < big then .nx (c1.put i (some (true, .lst (ds ++ [d])))) else .bad
    | none => .bad) ⟨N, R, BB, CC, X⟩ := by
    rw [e]
    dsimp only
    rw [if_pos (show ds.length < big from hl)]
    exact ⟨q1⟩
  cases k with
  | bo => exact absurd rfl h1
  | st => exact key
  | fr => exact key
def ownK (c : Cfg) (i : Nat) (P : Prop) : Prop := (ownL c i).isSome = true ∧ P
theorem own_i {P : Prop} (h : (ownL c i).isSome = true) (q : P) : ownK c i P := ⟨h, q⟩
def putIK (i : Nat) (d : D) (N : QC) (di : D) (c2 : Cfg) : Prop := ∃ (n : Int) (ds : List D) (j : Nat), di = .int n ∧ ownL c2 i = some ds ∧ L2.ixN ds.length n = some j ∧ ∃ r', c2.r.set i (some (true, .lst (ds.set j d))) = r' ∧ N ⟨r', c2.W⟩
theorem putI_st {r' : List (Option (Bool × D))} {n : Int} (h1 : ownL ⟨r, W⟩ i = some ds) (h2 : L2.ixN ds.length n = some j) (h3 : r.set i (some (true, .lst (ds.set j d))) = r') (q : N ⟨r', W⟩) : putIK i d N (.int n) ⟨r, W⟩ := ⟨n, ds, j, rfl, h1, h2, r', h3, q⟩
theorem wS_putI {fi : EF} (h : wpE (fe c) (fun k d c1 => k ≠ .bo ∧ ownK c1 i (wpE (fi c1) (fun _ di c2 => putIK i d N di c2) X)) X) : wpS (sPutI i fi fe c) ⟨N, R, BB, CC, X⟩ := by
  unfold sPutI
  refine toS_w (h.imp fun k d c1 q => ?_)
  obtain ⟨h1, h2, h3⟩ := q
  have key : wpS (if (ownL c1 i).isSome then (fi c1).toS (fun _ di c2 => match di, ownL c2 i with
    | .int n, some ds => match ixN ds.length n with
      | some j => .nx (c2.put i (some (true, .lst (ds.set j d))))
      | none => .bad
    | _, _ => .bad) else .bad) ⟨N, R, BB, CC, X⟩ := by
    rw [if_pos h2]
    refine toS_w (h3.imp fun k2 d2 c2 q2 => ?_)
    obtain ⟨n, ds, j, rfl, e1, e2, r', rfl, q3⟩ := q2
    rw [e1]
    dsimp only
    rw [e2]
    exact ⟨q3⟩
  cases k with
  | bo => exact absurd rfl h1
  | st => exact key
  | fr => exact key
theorem wS_parK (h : wpE (fa c) (fun k1 d1 c1 => wpE (fb c1) (fun k2 d2 c2 => wpS (putK i k1 d1 c2) ⟨fun c3 => wpS (putK j k2 d2 c3) ⟨N, R, BB, CC, X⟩, R, BB, CC, X⟩) X) X) : wpS (sParK i j fa fb c) ⟨N, R, BB, CC, X⟩ := by
  unfold sParK
  refine toS_w (h.imp fun k d c1 q => toS_w (q.imp fun k2 d2 c2 q2 => ?_))
  cases e : putK i k d c2 with
  | nx c1 => rw [e] at q2; exact q2.h
  | ret fr d W => rw [e] at q2; exact q2
  | brk c1 => rw [e] at q2; exact q2
  | cnt c1 => rw [e] at q2; exact q2
  | exc x W => rw [e] at q2; exact q2
  | bad => rw [e] at q2; exact q2
def par3K (i j l : Nat) (N : QC) (ds : List D) (c1 : Cfg) : Prop := ∃ d1 d2 d3, ds = [d1, d2, d3] ∧ (i < c1.r.length ∧ j < c1.r.length ∧ l < c1.r.length) ∧ ∃ r', ((c1.r.set i (some (false, d1))).set j (some (false, d2))).set l (some (false, d3)) = r' ∧ N ⟨r', c1.W⟩
theorem par3_st {l : Nat} {d3 : D} {r1 r2 r3 : List (Option (Bool × D))} (hi : i < r.length) (hj : j < r.length) (hl : l < r.length) (h1 : r.set i (some (false, d1)) = r1) (h2 : r1.set j (some (false, d2)) = r2) (h3 : r2.set l (some (false, d3)) = r3) (q : N ⟨r3, W⟩) : par3K i j l N [d1, d2, d3] ⟨r, W⟩ := ⟨d1, d2, d3, rfl, ⟨hi, hj, hl⟩, r3, by rw [h1, h2, h3], q⟩
theorem wS_par3 {l : Nat} (h : wpA (ga c) (par3K i j l N) X) : wpS (sPar3 i j l ga c) ⟨N, R, BB, CC, X⟩ := by
  unfold sPar3
  cases e : ga c with
  | ok ds c1 =>
    rw [e] at h
    obtain ⟨d1, d2, d3, rfl, hl, r', rfl, q⟩ := h
    dsimp only
    rw [if_pos hl]
    exact ⟨q⟩
  | exc x W => rw [e] at h; exact h
  | bad => rw [e] at h; exact h
theorem wS_asg {tgt : D → Cfg → Option Cfg} (h : wpE (fe c) (fun k d c1 => k ≠ .bo ∧ wpC (tgt d c1) N) X) : wpS (sAsg tgt fe c) ⟨N, R, BB, CC, X⟩ := by
  unfold sAsg
  refine toS_w (h.imp fun k d c1 q => ?_)
  obtain ⟨h1, c2, e, q2⟩ := q
  cases k with
  | bo => exact absurd rfl h1
  | st => dsimp only; rw [e]; exact ⟨q2⟩
  | fr => dsimp only; rw [e]; exact ⟨q2⟩
theorem wC_name {QC' : QC} {r' : List (Option (Bool × D))} (h : i < r.length) (hr : r.set i (some (false, d)) = r') (q : QC' ⟨r', W⟩) : wpC (tgN i d ⟨r, W⟩) QC' := by
  subst hr
  exact ⟨_, if_pos h, q⟩
theorem wC_tup {QC' : QC} {g : List D → Cfg → Option Cfg} (hd : tupD d = some ds) (h : ds.length = n) (q : wpC (g ds c) QC') : wpC (tgTup n g d c) QC' := by
  rw [tupD_eq hd]
  unfold tgTup
  dsimp only
  rw [if_pos h]
  exact q
theorem wC_unl {QC' : QC} {g : List D → Cfg → Option Cfg} (hd : lstD d = some ds) (h : ds.length = n) (q : wpC (g ds c) QC') : wpC (tgUnl n g d c) QC' := by
  rw [lstD_eq hd]
  unfold tgUnl
  dsimp only
  rw [if_pos h]
  exact q
theorem wC_nil {QC' : QC} (q : QC' c) : wpC (tgNil [] c) QC' := ⟨c, rfl, q⟩
theorem wC_cons {QC' : QC} {f : D → Cfg → Option Cfg} {g : List D → Cfg → Option Cfg} (h : wpC (f d c) (fun c1 => wpC (g ds c1) QC')) : wpC (tgCons f g (d :: ds) c) QC' := by
  obtain ⟨c1, e, c2, e2, q⟩ := h
  refine ⟨c2, ?_, q⟩
  unfold tgCons
  dsimp only
  rw [e]
  exact e2
def appPopK (i j : Nat) (N : QC) (d : D) (c1 : Cfg) : Prop := ∃ (n : Int) (ds : List D) (m : Nat) (e : D), d = .int n ∧ ownL c1 j = some ds ∧ ds.length ≤ 1000000 ∧ L2.ixN ds.length n = some m ∧ ds[m]? = some e ∧ ∃ r1, c1.r.set j (some (true, .lst (ds.eraseIdx m))) = r1 ∧ ∃ es, ownL ⟨r1, c1.W⟩ i = some es ∧ es.length < 1000000 ∧ ∃ r2, r1.set i (some (true, .lst (es ++ [e]))) = r2 ∧ N ⟨r2, c1.W⟩
theorem appPop_st {n : Int} {m : Nat} {e : D} {es : List D} {r1 r2 : List (Option (Bool × D))} (h1 : ownL ⟨r, W⟩ j = some ds) (h2 : ds.length ≤ 1000000) (h3 : L2.ixN ds.length n = some m) (h4 : ds[m]? = some e) (h5 : r.set j (some (true, .lst (ds.eraseIdx m))) = r1) (h6 : ownL ⟨r1, W⟩ i = some es) (h7 : es.length < 1000000) (h8 : r1.set i (some (true, .lst (es ++ [e]))) = r2) (q : N ⟨r2, W⟩) : appPopK i j N (.int n) ⟨r, W⟩ := ⟨n, ds, m, e, rfl, h1, h2, h3, h4, r1, h5, es, h6, h7, r2, h8, q⟩
theorem wS_appPop (h0 : (ownL c i).isSome) (h1 : (ownL c j).isSome) (h : wpE (fe c) (fun _ d c1 => appPopK i j N d c1) X) : wpS (sAppPop i j fe c) ⟨N, R, BB, CC, X⟩ := by
  unfold sAppPop
  rw [if_pos h0]
  unfold sPopAt
  rw [if_pos h1]
  refine toS_w (h.imp fun k d c1 q => ?_)
  obtain ⟨n, ds, m, e, rfl, e1, hl, e2, e3, r1, rfl, es, e4, hl2, r2, rfl, q⟩ := q
  have hp : popAt j (.int n) c1 = some (e, c1.put j (some (true, .lst (ds.eraseIdx m)))) := by
    unfold popAt
    rw [e1]
    dsimp only
    rw [if_pos (show ds.length ≤ big from hl), e2]
    dsimp only
    rw [e3]
  rw [hp]
  dsimp only
  have e4' : ownL (c1.put j (some (true, .lst (ds.eraseIdx m)))) i = some es := e4
  rw [e4']
  dsimp only
  rw [if_pos (show es.length < big from hl2)]
  exact ⟨q⟩
def swapK (i : Nat) (f1 f2 : EF) (N : QC) (X : QX) (ds : List D) (c1 : Cfg) : Prop := ∃ d1 d2, ds = [d1, d2] ∧ ownK c1 i (wpE (f1 c1) (fun _ di c2 => putIK i d1 (fun c3 => ownK c3 i (wpE (f2 c3) (fun _ dj c4 => putIK i d2 N dj c4) X)) di c2) X)
theorem swap_i {f1 f2 : EF} (h : ownK c i (wpE (f1 c) (fun _ di c2 => putIK i d1 (fun c3 => ownK c3 i (wpE (f2 c3) (fun _ dj c4 => putIK i d2 N dj c4) X)) di c2) X)) : swapK i f1 f2 N X [d1, d2] c := ⟨d1, d2, rfl, h⟩
theorem wS_swapI {f1 f2 : EF} (h : wpA (ga c) (swapK i f1 f2 N X) X) : wpS (sSwapI i ga f1 f2 c) ⟨N, R, BB, CC, X⟩ := by
  unfold sSwapI
  cases e : ga c with
  | exc x W => rw [e] at h; exact h
  | bad => rw [e] at h; exact h
  | ok ds c1 =>
    rw [e] at h
    obtain ⟨d1, d2, rfl, h1, h2⟩ := h
    dsimp only
    rw [if_pos h1]
    refine toS_w (h2.imp fun k di c2 q => ?_)
    obtain ⟨n, es, m, rfl, e1, e2, r1, rfl, h3, h4⟩ := q
    have hp : putAt i d1 (.int n) c2 = some (c2.put i (some (true, .lst (es.set m d1)))) := by
      unfold putAt
      rw [e1]
      dsimp only
      rw [e2]
    rw [hp]
    dsimp only
    have h3' : (ownL (c2.put i (some (true, .lst (es.set m d1)))) i).isSome := h3
    rw [if_pos h3']
    refine toS_w (h4.imp fun k dj c4 q => ?_)
    obtain ⟨n', es', m', rfl, e3, e4, r2, rfl, h5⟩ := q
    have hp2 : putAt i d2 (.int n') c4 = some (c4.put i (some (true, .lst (es'.set m' d2)))) := by
      unfold putAt
      rw [e3]
      dsimp only
      rw [e4]
    rw [hp2]
    exact ⟨h5⟩
/-! what is walked -/
def itK (QL : QA) (k : Kd) (d : D) (c1 : Cfg) : Prop := k ≠ .bo ∧ ∃ ds, (d = .lst ds ∨ d = .tup ds) ∧ QL ds c1
theorem it_seq (hk : k ≠ .bo) (hd : seqD d = some ds) (q : QL ds c) : itK QL k d c := ⟨hk, ds, seqD_eq hd, q⟩
theorem wA_it (h : wpE (fe c) (itK QL) X) : wpA (evIt fe c) QL X := by
  unfold evIt
  cases e : fe c with
  | ok k d c1 =>
    rw [e] at h
    obtain ⟨h1, ds, hd, q⟩ := h
    cases k with
    | bo => exact absurd rfl h1
    | st => rcases hd with rfl | rfl <;> exact ⟨q⟩
    | fr => rcases hd with rfl | rfl <;> exact ⟨q⟩
  | exc x W => rw [e] at h; exact h
  | bad => rw [e] at h; exact h
def enK (QL : QA) (ds : List D) (c1 : Cfg) : Prop := ∃ es, (ds = [.lst es] ∨ ds = [.tup es]) ∧ QL (enumD 0 es) c1
theorem en_seq (hd : seqD d = some ds) (q : QL (enumD 0 ds) c) : enK QL [d] c := ⟨ds, by rcases seqD_eq hd with rfl | rfl <;> simp, q⟩
theorem wA_en (h : wpA (ga c) (enK QL) X) : wpA (evEn ga c) QL X := by
  unfold evEn
  cases e : ga c with
  | ok ds c1 =>
    rw [e] at h
    obtain ⟨es, hd, q⟩ := h
    rcases hd with rfl | rfl <;> exact ⟨q⟩
  | exc x W => rw [e] at h; exact h
  | bad => rw [e] at h; exact h
theorem wA_R1 (h : wpE (fe c) (fun _ d c1 => isInt d fun i => in62 i (QL (rngD 0 i.toNat) c1)) X) : wpA (evR1 fe c) QL X := by
  unfold evR1
  cases e : fe c with
  | ok k d c1 =>
    rw [e] at h
    obtain ⟨i, rfl, h1, q⟩ := h
    have : rOk i = true := by unfold rOk; rw [Bool.and_eq_true]; exact ⟨decide_eq_true h1.1, decide_eq_true h1.2⟩
    dsimp only
    rw [if_pos this]
    exact ⟨q⟩
  | exc x W => rw [e] at h; exact h
  | bad => rw [e] at h; exact h
theorem wA_R2 (h : wpE (fa c) (fun _ d c1 => isInt d fun i => in62 i (wpE (fb c1) (fun _ d2 c2 => isInt d2 fun j => in62 j (QL (rngD i (j - i).toNat) c2)) X)) X) : wpA (evR2 fa fb c) QL X := by
  unfold evR2
  cases e : fa c with
  | ok k d c1 =>
    rw [e] at h
    obtain ⟨i, rfl, h1, h2⟩ := h
    dsimp only
    cases e2 : fb c1 with
    | ok k2 d2 c2 =>
      rw [e2] at h2
      obtain ⟨j, rfl, h3, q⟩ := h2
      have h5 : rOk i = true := by unfold rOk; rw [Bool.and_eq_true]; exact ⟨decide_eq_true h1.1, decide_eq_true h1.2⟩
      have h6 : rOk j = true := by unfold rOk; rw [Bool.and_eq_true]; exact ⟨decide_eq_true h3.1, decide_eq_true h3.2⟩
      dsimp only
      rw [h5, h6]
      exact ⟨q⟩
    | exc x W => rw [e2] at h2; exact h2
    | bad => rw [e2] at h2; exact h2
  | exc x W => rw [e] at h; exact h
  | bad => rw [e] at h; exact h
/-! loops -/
theorem wS_for {tgt : D → Cfg → Option Cfg} (h : wpA (it c) (fun ds c1 => wpS (goFor tgt body ds c1) ⟨N, R, BB, CC, X⟩) X) : wpS (sFor it tgt body c) ⟨N, R, BB, CC, X⟩ := by
  unfold sFor
  cases e : it c with
  | ok ds c1 => rw [e] at h; exact h.h
  | exc x W => rw [e] at h; exact h
  | bad => rw [e] at h; exact h
theorem for_cons {tgt : D → Cfg → Option Cfg} (h : wpC (tgt d c) fun c1 => wpS (body c1) ⟨fun c2 => wpS (goFor tgt body ds c2) ⟨N, R, BB, CC, X⟩, R, N, fun c2 => wpS (goFor tgt body ds c2) ⟨N, R, BB, CC, X⟩, X⟩) : wpS (goFor tgt body (d :: ds) c) ⟨N, R, BB, CC, X⟩ := by
  obtain ⟨c1, e, q⟩ := h
  unfold goFor
  rw [e]
  dsimp only
  cases e2 : body c1 with
  | nx c1 => rw [e2] at q; exact q.h
  | ret fr d W => rw [e2] at q; exact q
  | brk c1 => rw [e2] at q; exact q
  | cnt c1 => rw [e2] at q; exact q.h
  | exc x W => rw [e2] at q; exact q
  | bad => rw [e2] at q; exact q
theorem for_nil {tgt : D → Cfg → Option Cfg} (q : N c) : wpS (goFor tgt body [] c) ⟨N, R, BB, CC, X⟩ := ⟨q⟩
/-- by an invariant over what is done and what is left -/
theorem for_inv {α : Type} {tgt : D → Cfg → Option Cfg} (e : α → D) (xs : List α) (I : List α → List α → Cfg → Prop) (h0 : I [] xs c)
    (hs : ∀ done x rest c, xs = done ++ x :: rest → I done (x :: rest) c → wpC (tgt (e x) c) fun c1 => wpS (body c1) ⟨I (done ++ [x]) rest, R, N, I (done ++ [x]) rest, X⟩)
    (hq : ∀ c, I xs [] c → N c) : wpS (goFor tgt body (xs.map e) c) ⟨N, R, BB, CC, X⟩ := by
  have key : ∀ (rest done : List α) (c : Cfg), xs = done ++ rest → I done rest c → wpS (goFor tgt body (rest.map e) c) ⟨N, R, BB, CC, X⟩ := by
    intro rest
    induction rest with
    | nil =>
      intro done c hx hI
      rw [List.append_nil] at hx
      subst hx
      exact ⟨hq c hI⟩
    | cons x rest ih =>
      intro done c hx hI
      rw [List.map_cons]
      refine for_cons ?_
      have h1 := hs done x rest c hx hI
      obtain ⟨c1, e1, q⟩ := h1
      refine ⟨c1, e1, ?_⟩
      dsimp only
      have hn : ∀ c2, I (done ++ [x]) rest c2 → wpS (goFor tgt body (rest.map e) c2) ⟨N, R, BB, CC, X⟩ := fun c2 h => ih (done ++ [x]) c2 (by rw [hx]; simp) h
      cases e2 : body c1 with
      | nx c1 => rw [e2] at q; exact ⟨hn _ q.h⟩
      | ret fr d W => rw [e2] at q; exact q
      | brk c1 => rw [e2] at q; exact q
      | cnt c1 => rw [e2] at q; exact ⟨hn _ q.h⟩
      | exc x W => rw [e2] at q; exact q
      | bad => rw [e2] at q; exact q
  exact key xs [] c rfl h0
theorem enum_map {α : Type} (e : α → D) : ∀ (xs : List α) (k : Nat), enumD k (xs.map e) = (xs.zipIdx k).map fun p => .tup [.int (p.2 : Nat), e p.1]
  | [], k => rfl
  | x :: xs, k => by
    rw [List.map_cons, List.zipIdx_cons, List.map_cons]
    unfold enumD
    rw [enum_map e xs (k + 1)]
theorem for_enum {α : Type} {tgt : D → Cfg → Option Cfg} (e : α → D) (xs : List α) (I : List α → List α → Cfg → Prop) (h0 : I [] xs c)
    (hs : ∀ done x rest c, xs = done ++ x :: rest → I done (x :: rest) c → wpC (tgt (.tup [.int (done.length : Nat), e x]) c) fun c1 => wpS (body c1) ⟨I (done ++ [x]) rest, R, N, I (done ++ [x]) rest, X⟩)
    (hq : ∀ c, I xs [] c → N c) : wpS (goFor tgt body (enumD 0 (xs.map e)) c) ⟨N, R, BB, CC, X⟩ := by
  have key : ∀ (rest done : List α) (c : Cfg), xs = done ++ rest → I done rest c → wpS (goFor tgt body (enumD done.length (rest.map e)) c) ⟨N, R, BB, CC, X⟩ := by
    intro rest
    induction rest with
    | nil =>
      intro done c hx hI
      rw [List.append_nil] at hx
      subst hx
      exact ⟨hq c hI⟩
    | cons x rest ih =>
      intro done c hx hI
      rw [List.map_cons]
      unfold enumD
      refine for_cons ?_
      have h1 := hs done x rest c hx hI
      obtain ⟨c1, e1, q⟩ := h1
      refine ⟨c1, e1, ?_⟩
      dsimp only
      have hn : ∀ c2, I (done ++ [x]) rest c2 → wpS (goFor tgt body (enumD (done.length + 1) (rest.map e)) c2) ⟨N, R, BB, CC, X⟩ := fun c2 h => by
        have := ih (done ++ [x]) c2 (by rw [hx]; simp) h
        rw [List.length_append] at this
        exact this
      cases e2 : body c1 with
      | nx c1 => rw [e2] at q; exact ⟨hn _ q.h⟩
      | ret fr d W => rw [e2] at q; exact q
      | brk c1 => rw [e2] at q; exact q
      | cnt c1 => rw [e2] at q; exact ⟨hn _ q.h⟩
      | exc x W => rw [e2] at q; exact q
      | bad => rw [e2] at q; exact q
  exact key xs [] c rfl h0
theorem for_rng {tgt : D → Cfg → Option Cfg} {lo : Int} (n : Nat) (I : Nat → Cfg → Prop) (h0 : I 0 c)
    (hs : ∀ k c, k < n → I k c → wpC (tgt (.int (lo + (k : Int))) c) fun c1 => wpS (body c1) ⟨I (k + 1), R, N, I (k + 1), X⟩)
    (hq : ∀ c, I n c → N c) : wpS (goFor tgt body (rngD lo n) c) ⟨N, R, BB, CC, X⟩ := by
  unfold rngD
  refine for_inv (fun i : Nat => D.int (lo + (i : Int))) (List.range n) (fun done rest c => I done.length c) h0 (fun done x rest c hx hI => ?_) (fun c hI => hq c (by simpa using hI))
  have hl : done.length < n := by
    have := congrArg List.length hx
    simp at this
    omega
  have hxv : x = done.length := by
    have h1 : (List.range n)[done.length]? = some x := by rw [hx]; simp
    rw [List.getElem?_range hl] at h1
    exact (Option.some.inj h1).symm
  subst hxv
  have := hs done.length c hl hI
  simp only [List.length_append, List.length_singleton]
  exact this
/-- a while loop by a measure -/
theorem wS_while {fuel : Cfg → Nat} (I : Cfg → Prop) (m : Cfg → Nat) (h0 : I c) (hm : m c < fuel c)
    (hs : ∀ c, I c → wpE (ft c) (fun _ d c1 => onBl d (wpS (body c1) ⟨fun c2 => I c2 ∧ m c2 < m c, R, N, fun c2 => I c2 ∧ m c2 < m c, X⟩) (N c1)) X) : wpS (sWhile fuel ft body c) ⟨N, R, BB, CC, X⟩ := by
  unfold sWhile
  have key : ∀ (n : Nat) (c : Cfg), I c → m c < n → wpS (goWhile ft body n c) ⟨N, R, BB, CC, X⟩ := by
    intro n
    induction n with
    | zero => exact fun c _ h => absurd h (Nat.not_lt_zero _)
    | succ n ih =>
      intro c hI hl
      unfold goWhile
      refine toS_w ((hs c hI).imp fun k d c1 q => ?_)
      obtain ⟨b, rfl, h1, h2⟩ := q
      cases b with
      | false => exact ⟨h2 rfl⟩
      | true =>
        have q := h1 rfl
        dsimp only
        cases e2 : body c1 with
        | nx c2 => rw [e2] at q; exact ih c2 q.h.1 (by have := q.h.2; omega)
        | ret fr d W => rw [e2] at q; exact q
        | brk c2 => rw [e2] at q; exact q
        | cnt c2 => rw [e2] at q; exact ih c2 q.h.1 (by have := q.h.2; omega)
        | exc x W => rw [e2] at q; exact q
        | bad => rw [e2] at q; exact q
  exact key (fuel c) c h0 hm
/-! comprehensions -/
def lcM (tgt : D → Cfg → Option Cfg) (vs : List Nat) (ft fe : EF) (Q : QE) (ds : List D) (c : Cfg) : Prop := ∃ rs c2, goLc tgt vs ft fe ds [] c = .ok rs c2 ∧ Q .fr (.lst rs) c2
theorem wE_lc {tgt : D → Cfg → Option Cfg} {vs : List Nat} (h : wpA (it c) (lcM tgt vs ft fe Q) X) : wpE (evLc it tgt vs ft fe c) Q X := by
  unfold evLc
  cases e : it c with
  | ok ds c1 =>
    rw [e] at h
    obtain ⟨rs, c2, e2, q⟩ := h
    dsimp only
    rw [e2]
    exact ⟨q⟩
  | exc x W => rw [e] at h; exact h
  | bad => rw [e] at h; exact h
theorem lc_inv {α : Type} {tgt : D → Cfg → Option Cfg} {vs : List Nat} (e : α → D) (t : α → Bool) (v : α → D) (I : Cfg → Prop) (xs : List α) (hl : xs.length ≤ 1000000) (h0 : I c)
    (hs : ∀ x ∈ xs, ∀ c, I c → wpC (tgt (e x) (c.wipe vs)) fun c1 => wpE (ft c1) (fun _ d c2 => d = .bl (t x) ∧ (t x = false → I (Cfg.mrg vs c c2)) ∧ (t x = true → wpE (fe c2) (fun k d' c3 => k ≠ .bo ∧ d' = v x ∧ I (Cfg.mrg vs c c3)) fun _ _ => False)) fun _ _ => False) :
    ∃ c2, goLc tgt vs ft fe (xs.map e) [] c = .ok ((xs.filter t).map v) c2 ∧ I c2 := by
  have key : ∀ (xs : List α) (acc : List D) (c : Cfg), acc.length + xs.length ≤ 1000000 → I c → (∀ x ∈ xs, ∀ c, I c → wpC (tgt (e x) (c.wipe vs)) fun c1 => wpE (ft c1) (fun _ d c2 => d = .bl (t x) ∧ (t x = false → I (Cfg.mrg vs c c2)) ∧ (t x = true → wpE (fe c2) (fun k d' c3 => k ≠ .bo ∧ d' = v x ∧ I (Cfg.mrg vs c c3)) fun _ _ => False)) fun _ _ => False) →
      ∃ c2, goLc tgt vs ft fe (xs.map e) acc c = .ok (acc ++ (xs.filter t).map v) c2 ∧ I c2 := by
    intro xs
    induction xs with
    | nil => exact fun acc c _ h _ => ⟨c, by simp [goLc], h⟩
    | cons x xs ih =>
      intro acc c hl h0 hs
      obtain ⟨c1, e1, q⟩ := hs x List.mem_cons_self c h0
      have hr := fun y hy => hs y (List.mem_cons_of_mem _ hy)
      rw [List.map_cons]
      unfold goLc
      rw [e1]
      dsimp only
      cases e2 : ft c1 with
      | exc x W => rw [e2] at q; exact q.h.elim
      | bad => rw [e2] at q; exact q.h.elim
      | ok k d c2 =>
        rw [e2] at q
        obtain ⟨rfl, q1, q2⟩ := q
        cases ht : t x with
        | false =>
          dsimp only
          rw [List.filter_cons_of_neg (by simp [ht])]
          exact ih acc _ (by simp at hl; omega) (q1 ht) hr
        | true =>
          have q3 := q2 ht
          dsimp only
          rw [List.filter_cons_of_pos ht, List.map_cons]
          cases e3 : fe c2 with
          | exc x W => rw [e3] at q3; exact q3.h.elim
          | bad => rw [e3] at q3; exact q3.h.elim
          | ok k d' c3 =>
            rw [e3] at q3
            obtain ⟨h1, rfl, q4⟩ := q3
            have hb : acc.length < big := by show acc.length < 1000000; simp at hl; omega
            obtain ⟨c4, e4, q5⟩ := ih (acc ++ [v x]) _ (by simp at hl ⊢; omega) q4 hr
            refine ⟨c4, ?_, q5⟩
            cases k with
            | bo => exact absurd rfl h1
            | st =>
              dsimp only
              rw [if_pos hb, e4]
              simp
            | fr =>
              dsimp only
              rw [if_pos hb, e4]
              simp
  exact key xs [] c (by simpa using hl) h0 hs
/-- the same, as it is used -/
theorem lc_use {α : Type} {tgt : D → Cfg → Option Cfg} {vs : List Nat} (e : α → D) (t : α → Bool) (v : α → D) (I : Cfg → Prop) {xs : List α} (hl : xs.length ≤ 1000000) (h0 : I c)
    (hs : ∀ x ∈ xs, ∀ c, I c → wpC (tgt (e x) (c.wipe vs)) fun c1 => wpE (ft c1) (fun _ d c2 => d = .bl (t x) ∧ (t x = false → I (Cfg.mrg vs c c2)) ∧ (t x = true → wpE (fe c2) (fun k d' c3 => k ≠ .bo ∧ d' = v x ∧ I (Cfg.mrg vs c c3)) fun _ _ => False)) fun _ _ => False)
    (hq : ∀ c2, I c2 → Q .fr (.lst ((xs.filter t).map v)) c2) : lcM tgt vs ft fe Q (xs.map e) c := by
  obtain ⟨c2, h1, h2⟩ := lc_inv (tgt := tgt) (vs := vs) (ft := ft) (fe := fe) e t v I xs hl h0 hs
  exact ⟨_, c2, h1, hq c2 h2⟩
/-- without a test, the slots but the walked ones as they were -/
theorem lc_all {α : Type} {tgt : D → Cfg → Option Cfg} {vs : List Nat} (e : α → D) (v : α → D) (I : Cfg → Prop) {xs : List α} (hl : xs.length ≤ 1000000) (h0 : I c)
    (hs : ∀ x ∈ xs, ∀ c, I c → wpC (tgt (e x) (c.wipe vs)) fun c1 => wpE (fe c1) (fun k d' c3 => k ≠ .bo ∧ d' = v x ∧ I (Cfg.mrg vs c c3)) fun _ _ => False)
    (hq : ∀ c2, I c2 → Q .fr (.lst (xs.map v)) c2) : lcM tgt vs (evC (.bl true)) fe Q (xs.map e) c := by
  refine lc_use e (fun _ => true) v I hl h0 (fun x hx c hc => ?_) (fun c2 h => by
    rw [List.filter_eq_self.mpr (fun _ _ => rfl)]
    exact hq c2 h)
  obtain ⟨c1, e1, q⟩ := hs x hx c hc
  exact ⟨c1, e1, rfl, (fun z => by cases z), fun _ => q⟩
/-! marks: what is found by computing -/
def vM (i : Nat) (c : Cfg) (Q : QE) (X : QX) : Prop := wpE (evV i c) Q X
def bM (i : Nat) (c : Cfg) (Q : QE) (X : QX) : Prop := wpE (evB i c) Q X
def mM (i : Nat) (c : Cfg) (Q : QE) (X : QX) : Prop := wpE (evM i c) Q X
def pMs (i : Nat) (d : D) (c : Cfg) (Q : QS) : Prop := wpS (putK i .st d c) Q
def pMf (i : Nat) (d : D) (c : Cfg) (Q : QS) : Prop := wpS (putK i .fr d c) Q
def tM (i : Nat) (d : D) (c : Cfg) (Q : QC) : Prop := wpC (tgN i d c) Q
theorem v_M (h : vM i c Q X) : wpE (evV i c) Q X := h
theorem b_M (h : bM i c Q X) : wpE (evB i c) Q X := h
theorem m_M (h : mM i c Q X) : wpE (evM i c) Q X := h
theorem p_Ms {QQ : QS} (h : pMs i d c QQ) : wpS (putK i .st d c) QQ := h
theorem p_Mf {QQ : QS} (h : pMf i d c QQ) : wpS (putK i .fr d c) QQ := h
theorem t_M (h : tM i d c N) : wpC (tgN i d c) N := h
theorem vM_s (h : r[i]? = some (some (false, d))) (q : Q .st d ⟨r, W⟩) : vM i ⟨r, W⟩ Q X := wE_evV_s h q
theorem vM_o {r' : List (Option (Bool × D))} (h : r[i]? = some (some (true, d))) (hr : r.set i (some (false, d)) = r') (q : Q .st d ⟨r', W⟩) : vM i ⟨r, W⟩ Q X := wE_evV_o h hr q
theorem bM_i (h : r[i]? = some (some (b, d))) (q : Q .bo d ⟨r, W⟩) : bM i ⟨r, W⟩ Q X := wE_evB h q
theorem mM_s (h : r[i]? = some (some (false, d))) (q : Q .st d ⟨r, W⟩) : mM i ⟨r, W⟩ Q X := wE_evM_s h q
theorem mM_o {r' : List (Option (Bool × D))} (h : r[i]? = some (some (true, d))) (hr : r.set i none = r') (q : Q .fr d ⟨r', W⟩) : mM i ⟨r, W⟩ Q X := wE_evM_o h hr q
theorem pM_s {r' : List (Option (Bool × D))} (h : Nat.ble (i + 1) r.length = true) (hr : r.set i (some (false, d)) = r') (q : N ⟨r', W⟩) : pMs i d ⟨r, W⟩ ⟨N, R, BB, CC, X⟩ := wS_putS (Nat.le_of_ble_eq_true h) hr q
theorem pM_f {r' : List (Option (Bool × D))} (h : Nat.ble (i + 1) r.length = true) (hr : r.set i (some (true, d)) = r') (q : N ⟨r', W⟩) : pMf i d ⟨r, W⟩ ⟨N, R, BB, CC, X⟩ := wS_putF (Nat.le_of_ble_eq_true h) hr q
theorem tM_i {r' : List (Option (Bool × D))} (h : Nat.ble (i + 1) r.length = true) (hr : r.set i (some (false, d)) = r') (q : N ⟨r', W⟩) : tM i d ⟨r, W⟩ N := wC_name (Nat.le_of_ble_eq_true h) hr q
/-! a call -/
theorem call_ret {F : FF} (h : F ds W = .ret false d W') (hn : Nat.beq ds.length n = true) (q : Q .st d ⟨r, W'⟩) : callK n F Q X ds ⟨r, W⟩ := call_st hn (wpF_of h q)
theorem call_fr {F : FF} (h : F ds W = .ret true d W') (hn : Nat.beq ds.length n = true) (q : Q .fr d ⟨r, W'⟩) : callK n F Q X ds ⟨r, W⟩ := call_st hn (wpF_of h q)
theorem call_exc {F : FF} {x : XD} (h : F ds W = .exc x W') (hn : Nat.beq ds.length n = true) (q : X x ⟨r, W'⟩) : callK n F Q X ds ⟨r, W⟩ := call_st hn (wpF_ofX h q)
def callK2 (n n1 n2 : Nat) (π : List Nat) (F : FF) (Q : QE) (X : QX) (ds es : List D) (c : Cfg) : Prop := ds.length = n1 ∧ es.length = n2 ∧ callK n F Q X (permL π (ds ++ es)) c
theorem wE_callK2 {F : FF} {n1 n2 : Nat} {π : List Nat} {gk : AF} (h : wpA (ga c) (fun ds c1 => wpA (gk c1) (fun es c2 => callK2 n n1 n2 π F Q X ds es c2) X) X) : wpE (evCallK n n1 n2 π F ga gk c) Q X := by
  unfold evCallK
  refine abind_w (h.imp fun ds c1 q => ?_)
  refine abind_w (q.imp fun es c2 q2 => ?_)
  obtain ⟨h1, h3, h4, h5⟩ := q2
  rw [if_pos ⟨h1, h3⟩, if_pos h4]
  cases e : F (permL π (ds ++ es)) c2.W with
  | ret fr d W => rw [e] at h5; exact h5
  | exc x W => rw [e] at h5; exact h5
  | bad => rw [e] at h5; exact h5
theorem call_ret2 {F : FF} {n1 n2 : Nat} {π : List Nat} {es zs : List D} (h : F zs W = .ret false d W') (hz : permL π (ds ++ es) = zs) (h1 : Nat.beq ds.length n1 = true) (h2 : Nat.beq es.length n2 = true) (hn : Nat.beq zs.length n = true) (q : Q .st d ⟨r, W'⟩) : callK2 n n1 n2 π F Q X ds es ⟨r, W⟩ := by
  subst hz
  exact ⟨Nat.eq_of_beq_eq_true h1, Nat.eq_of_beq_eq_true h2, call_ret h hn q⟩
theorem vM_a {r' : List (Option (Bool × D))} (h : r[i]? = some (some (b, d))) (hr : r.set i (some (false, d)) = r') (q : Q .st d ⟨r', W⟩) : vM i ⟨r, W⟩ Q X := by
  cases b with
  | true => exact vM_o h hr q
  | false =>
    have : r.set i (some (false, d)) = r := by
      apply List.ext_getElem?
      intro j
      by_cases hj : i = j
      · subst hj
        rw [List.getElem?_set_self (by exact (List.getElem?_eq_some_iff.mp h).1), h]
      · rw [List.getElem?_set_ne hj]
    rw [this] at hr
    subst hr
    exact vM_s h q
theorem wipe_nil : wipeR r [] = r := rfl
theorem wipe_cons {v : Nat} {vs : List Nat} {r1 r2 : List (Option (Bool × D))} (h1 : wipeR r vs = r1) (h2 : r1.set v none = r2) : wipeR r (v :: vs) = r2 := by rw [← h2, ← h1]; rfl
/-- a comprehension that leaves all slots as they were -/
theorem lc_eq {α : Type} {tgt : D → Cfg → Option Cfg} {vs : List Nat} {r1 : List (Option (Bool × D))} (e : α → D) (t : α → Bool) (v : α → D) {xs : List α} (hl : xs.length ≤ 1000000) (hw : wipeR r vs = r1)
    (hs : ∀ x ∈ xs, wpC (tgt (e x) ⟨r1, W⟩) fun c1 => wpE (ft c1) (fun _ d c2 => d = .bl (t x) ∧ (t x = false → Cfg.mrg vs ⟨r, W⟩ c2 = ⟨r, W⟩) ∧ (t x = true → wpE (fe c2) (fun k d' c3 => k ≠ .bo ∧ d' = v x ∧ Cfg.mrg vs ⟨r, W⟩ c3 = ⟨r, W⟩) fun _ _ => False)) fun _ _ => False)
    (hq : Q .fr (.lst ((xs.filter t).map v)) ⟨r, W⟩) : lcM tgt vs ft fe Q (xs.map e) ⟨r, W⟩ := by
  subst hw
  refine lc_use e t v (fun c => c = ⟨r, W⟩) hl rfl (fun x hx c hc => ?_) (fun c2 hc => by rw [hc]; exact hq)
  subst hc
  exact hs x hx
theorem lc_alleq {α : Type} {tgt : D → Cfg → Option Cfg} {vs : List Nat} {r1 : List (Option (Bool × D))} (e : α → D) (v : α → D) {xs : List α} (hl : xs.length ≤ 1000000) (hw : wipeR r vs = r1)
    (hs : ∀ x ∈ xs, wpC (tgt (e x) ⟨r1, W⟩) fun c1 => wpE (fe c1) (fun k d' c3 => k ≠ .bo ∧ d' = v x ∧ Cfg.mrg vs ⟨r, W⟩ c3 = ⟨r, W⟩) fun _ _ => False)
    (hq : Q .fr (.lst (xs.map v)) ⟨r, W⟩) : lcM tgt vs (evC (.bl true)) fe Q (xs.map e) ⟨r, W⟩ := by
  subst hw
  refine lc_all e v (fun c => c = ⟨r, W⟩) hl rfl (fun x hx c hc => ?_) (fun c2 hc => by rw [hc]; exact hq)
  subst hc
  exact hs x hx
theorem for_rng0 {tgt : D → Cfg → Option Cfg} (n : Nat) (I : Nat → Cfg → Prop) (h0 : I 0 c)
    (hs : ∀ k c, k < n → I k c → wpC (tgt (.int (k : Int)) c) fun c1 => wpS (body c1) ⟨I (k + 1), R, N, I (k + 1), X⟩)
    (hq : ∀ c, I n c → N c) : wpS (goFor tgt body (rngD 0 n) c) ⟨N, R, BB, CC, X⟩ :=
  for_rng n I h0 (fun k c hk hI => by rw [Int.zero_add]; exact hs k c hk hI) hq
theorem for_rng1 {tgt : D → Cfg → Option Cfg} (n : Nat) (I : Nat → Cfg → Prop) (h0 : I 0 c)
    (hs : ∀ k c, k < n → I k c → wpC (tgt (.int ((k + 1 : Nat) : Int)) c) fun c1 => wpS (body c1) ⟨I (k + 1), R, N, I (k + 1), X⟩)
    (hq : ∀ c, I n c → N c) : wpS (goFor tgt body (rngD 1 n) c) ⟨N, R, BB, CC, X⟩ :=
  for_rng n I h0 (fun k c hk hI => by rw [show (1 : Int) + (k : Int) = ((k + 1 : Nat) : Int) by omega]; exact hs k c hk hI) hq
theorem mrg_i {vs : List Nat} {r0 r1 r2 : List (Option (Bool × D))} {W0 : Wd} (h : mrgFrom vs 0 r0 r1 = r2) : Cfg.mrg vs ⟨r0, W0⟩ ⟨r1, W⟩ = ⟨r2, W⟩ := by rw [← h]; rfl
theorem mrg_nil {vs : List Nat} {k : Nat} : mrgFrom vs k [] [] = [] := rfl
theorem mrg_in {vs : List Nat} {k : Nat} {a a' b : Option (Bool × D)} {r0 r1 r2 : List (Option (Bool × D))} (h : vs.contains k = true) (ha : shOf a = a') (hr : mrgFrom vs (k + 1) r0 r1 = r2) : mrgFrom vs k (a :: r0) (b :: r1) = a' :: r2 := by
  unfold mrgFrom
  rw [if_pos h, ha, hr]
theorem mrg_out {vs : List Nat} {k : Nat} {a b : Option (Bool × D)} {r0 r1 r2 : List (Option (Bool × D))} (h : vs.contains k = false) (hr : mrgFrom vs (k + 1) r0 r1 = r2) : mrgFrom vs k (a :: r0) (b :: r1) = b :: r2 := by
  unfold mrgFrom
  rw [if_neg (by rw [h]; intro z; cases z), hr]
end
end DL
namespace DL
open PySem PySem.Spec PyProof.Rows L2
/-! ### operations on data, by rules -/
abbrev nD (n : Nat) : D := .int (n : Int)
abbrev QO := Kd → D → Prop
section
variable {Q : QO} {i j : Int} {a b : List D} {d d1 d2 : D} {α : Type}
theorem wO_some {k : Kd} {o : Option (Kd × D)} (h : o = some (k, d)) (q : Q k d) : wpO o Q := ⟨_, _, h, q⟩
theorem wO_ixl {k : Kd} (h : gIx d1 d2 = some (k, d)) (q : Q k d) : wpO (gIx d1 d2) Q := ⟨_, _, h, q⟩
theorem wO_add (hi : intD d1 = some i) (hj : intD d2 = some j) (q : Q .st (.int (i + j))) : wpO (gAdd d1 d2) Q := by
  rw [intD_eq hi, intD_eq hj]
  exact ⟨_, _, rfl, q⟩
theorem wO_catT (ha : tupD d1 = some a) (hb : tupD d2 = some b) (h : a.length + b.length ≤ 1000000) (q : Q .st (.tup (a ++ b))) : wpO (gAdd d1 d2) Q := by
  rw [tupD_eq ha, tupD_eq hb]
  exact ⟨_, _, by rw [gAdd_tup, if_pos (show _ ≤ big from h)], q⟩
theorem wO_catL (ha : lstD d1 = some a) (hb : lstD d2 = some b) (h : a.length + b.length ≤ 1000000) (q : Q .fr (.lst (a ++ b))) : wpO (gAdd d1 d2) Q := by
  rw [lstD_eq ha, lstD_eq hb]
  exact ⟨_, _, by rw [gAdd_lst, if_pos (show _ ≤ big from h)], q⟩
theorem wO_sub (hi : intD d1 = some i) (hj : intD d2 = some j) (q : Q .st (.int (i - j))) : wpO (gSubI d1 d2) Q := by
  rw [intD_eq hi, intD_eq hj]
  exact ⟨_, _, rfl, q⟩
theorem wO_mul (hi : intD d1 = some i) (hj : intD d2 = some j) (h : mulOk i j = true) (q : Q .st (.int (i * j))) : wpO (gMul d1 d2) Q := by
  rw [intD_eq hi, intD_eq hj]
  exact ⟨_, _, by rw [gMul_int, if_pos h], q⟩
theorem wO_repL (ha : lstD d1 = some a) (hi : intD d2 = some i) (h : -(2 ^ 63) ≤ i ∧ i < 2 ^ 63 ∧ a.length * i.toNat ≤ 1000000) (q : Q .fr (.lst (List.replicate i.toNat a).flatten)) : wpO (gMul d1 d2) Q := by
  rw [lstD_eq ha, intD_eq hi]
  exact ⟨_, _, by rw [gMul_lst, if_pos (show _ ∧ _ ∧ _ ≤ big from h)], q⟩
theorem wO_fdiv (hi : intD d1 = some i) (hj : intD d2 = some j) (h : fdivOk j = true) (q : Q .st (.int (i / j))) : wpO (gFdiv d1 d2) Q := by
  rw [intD_eq hi, intD_eq hj]
  exact ⟨_, _, by rw [gFdiv_int, if_pos h], q⟩
theorem wO_mod (hi : intD d1 = some i) (hj : intD d2 = some j) (h : 0 < j) (q : Q .st (.int (i % j))) : wpO (gMod d1 d2) Q := by
  rw [intD_eq hi, intD_eq hj]
  exact ⟨_, _, by rw [gMod_int, if_pos h], q⟩
theorem wO_pow (hi : intD d1 = some i) (hj : intD d2 = some j) (h : 0 ≤ j ∧ j ≤ 1000000 ∧ i.natAbs < 2 ^ 64) (q : Q .st (.int (i ^ j.toNat))) : wpO (gPow d1 d2) Q := by
  rw [intD_eq hi, intD_eq hj]
  exact ⟨_, _, by rw [gPow_int, if_pos h], q⟩
theorem wO_lt (hi : intD d1 = some i) (hj : intD d2 = some j) (q : Q .st (.bl (decide (i < j)))) : wpO (gLt d1 d2) Q := by
  rw [intD_eq hi, intD_eq hj]
  exact ⟨_, _, rfl, q⟩
theorem wO_le (hi : intD d1 = some i) (hj : intD d2 = some j) (q : Q .st (.bl (decide (i ≤ j)))) : wpO (gLe d1 d2) Q := by
  rw [intD_eq hi, intD_eq hj]
  exact ⟨_, _, rfl, q⟩
theorem wO_gt (hi : intD d1 = some i) (hj : intD d2 = some j) (q : Q .st (.bl (decide (j < i)))) : wpO (gGt d1 d2) Q := by
  rw [intD_eq hi, intD_eq hj]
  exact ⟨_, _, rfl, q⟩
theorem wO_ge (hi : intD d1 = some i) (hj : intD d2 = some j) (q : Q .st (.bl (decide (j ≤ i)))) : wpO (gGe d1 d2) Q := by
  rw [intD_eq hi, intD_eq hj]
  exact ⟨_, _, rfl, q⟩
theorem eqD_ints {a b : Int} : eqD (.int a) (.int b) = some (decide (a = b)) := by
  unfold eqD
  rw [py_int, py_int]
  have : SeqAt.shaped (.int a) = true := rfl
  have h2 : SeqAt.shaped (.int b) = true := rfl
  simp only [this, h2, Bool.and_self, if_true]
  by_cases h : a = b
  · subst h; simp [PyData.eqv]
  · simp [PyData.eqv, h]
theorem eqD_bls {a b : Bool} : eqD (.bl a) (.bl b) = some (decide (a = b)) := by cases a <;> cases b <;> decide +kernel
theorem wO_eqI (hi : intD d1 = some i) (hj : intD d2 = some j) (q : Q .st (.bl (decide (i = j)))) : wpO (gEq d1 d2) Q := by
  rw [intD_eq hi, intD_eq hj]
  exact ⟨_, _, by unfold gEq; rw [eqD_ints]; rfl, q⟩
theorem wO_neI (hi : intD d1 = some i) (hj : intD d2 = some j) (q : Q .st (.bl (!decide (i = j)))) : wpO (gNe d1 d2) Q := by
  rw [intD_eq hi, intD_eq hj]
  exact ⟨_, _, by unfold gNe; rw [eqD_ints]; rfl, q⟩
theorem wO_eqB {i j : Bool} (hi : blD d1 = some i) (hj : blD d2 = some j) (q : Q .st (.bl (decide (i = j)))) : wpO (gEq d1 d2) Q := by
  rw [blD_eq hi, blD_eq hj]
  exact ⟨_, _, by unfold gEq; rw [eqD_bls]; rfl, q⟩
theorem wO_neB {i j : Bool} (hi : blD d1 = some i) (hj : blD d2 = some j) (q : Q .st (.bl (!decide (i = j)))) : wpO (gNe d1 d2) Q := by
  rw [blD_eq hi, blD_eq hj]
  exact ⟨_, _, by unfold gNe; rw [eqD_bls]; rfl, q⟩
theorem wO_isN (q : Q .st (.bl (isNon d))) : wpO (gIsN d .non) Q := ⟨_, _, rfl, q⟩
theorem wO_notN (q : Q .st (.bl (!isNon d))) : wpO (gNotN d .non) Q := ⟨_, _, rfl, q⟩
theorem wO_isB {i j : Bool} (hi : blD d1 = some i) (hj : blD d2 = some j) (q : Q .st (.bl (decide (i = j)))) : wpO (gIsB d1 d2) Q := by
  rw [blD_eq hi, blD_eq hj]
  exact ⟨_, _, rfl, q⟩
theorem atI_natD {α : Type} {xs : List α} {i : Nat} (h : i < xs.length) : L2.atI xs (i : Int) = some xs[i] := by
  unfold L2.atI L2.ixN
  rw [if_pos (by omega), if_pos (by omega)]
  show xs[(i : Int).toNat]? = _
  rw [Int.toNat_natCast, List.getElem?_eq_getElem h]
theorem ixN_natD {n i : Nat} (h : i < n) : L2.ixN n (i : Int) = some i := by
  unfold L2.ixN
  rw [if_pos (by omega), if_pos (by omega), Int.toNat_natCast]
theorem ixN_intD {n : Nat} {i : Int} (h : 0 ≤ i ∧ i < n) : L2.ixN n i = some i.toNat := by
  unfold L2.ixN
  rw [if_pos h.1, if_pos h.2]
theorem atI_lastD {α : Type} {xs : List α} (h : xs ≠ []) : L2.atI xs (-1) = some (xs.getLast h) := by
  unfold L2.atI L2.ixN
  have hl : 0 < xs.length := List.length_pos_iff.mpr h
  rw [if_neg (by decide), if_pos (by omega)]
  show xs[(-1 + (xs.length : Int)).toNat]? = _
  rw [show (-1 + (xs.length : Int)).toNat = xs.length - 1 by omega, List.getElem?_eq_getElem (by omega), List.getLast_eq_getElem]
theorem ix_lst_nat {e : α → D} {xs : List α} {n : Nat} (dflt : α) (h : n < xs.length) : gIx (.lst (xs.map e)) (.int (n : Int)) = some (.st, e (xs.getD n dflt)) := by
  show (L2.atI (xs.map e) (n : Int)).map _ = _
  rw [atI_natD (by rw [List.length_map]; exact h)]
  simp [List.getD_eq_getElem?_getD, h]
theorem ix_tup_nat {e : α → D} {xs : List α} {n : Nat} (dflt : α) (h : n < xs.length) : gIx (.tup (xs.map e)) (.int (n : Int)) = some (.st, e (xs.getD n dflt)) := by
  show (L2.atI (xs.map e) (n : Int)).map _ = _
  rw [atI_natD (by rw [List.length_map]; exact h)]
  simp [List.getD_eq_getElem?_getD, h]
theorem wO_ix [Inhabited α] {e : α → D} {xs : List α} {n : Nat} (hd : seqD d1 = some (xs.map e)) (hn : intD d2 = some (n : Int)) (h : n < xs.length) (q : Q .st (e (xs.getD n default))) : wpO (gIx d1 d2) Q := by
  rw [intD_eq hn]
  rcases seqD_eq hd with rfl | rfl
  · exact ⟨_, _, ix_lst_nat _ h, q⟩
  · exact ⟨_, _, ix_tup_nat _ h, q⟩
theorem wO_ixi [Inhabited α] {e : α → D} {xs : List α} {i : Int} (hd : seqD d1 = some (xs.map e)) (hn : intD d2 = some i) (h : 0 ≤ i ∧ i < xs.length) (q : Q .st (e (xs.getD i.toNat default))) : wpO (gIx d1 d2) Q := by
  obtain ⟨n, rfl⟩ := Int.eq_ofNat_of_zero_le h.1
  exact wO_ix hd hn (by omega) q
theorem wO_ix_last {e : α → D} {xs : List α} (hd : seqD d1 = some (xs.map e)) (hn : intD d2 = some (-1)) (h : xs ≠ []) (q : Q .st (e (xs.getLast h))) : wpO (gIx d1 d2) Q := by
  rw [intD_eq hn]
  rcases seqD_eq hd with rfl | rfl
  · refine ⟨_, _, ?_, q⟩
    show (L2.atI (xs.map e) (-1)).map _ = _
    rw [atI_lastD (by simpa using h), List.getLast_map]
    rfl
  · refine ⟨_, _, ?_, q⟩
    show (L2.atI (xs.map e) (-1)).map _ = _
    rw [atI_lastD (by simpa using h), List.getLast_map]
    rfl
theorem wO_lenm {e : α → D} {xs : List α} (hd : seqD d1 = some (xs.map e)) (q : Q .st (.int (xs.length : Nat))) : wpO (gLen d1) Q := by
  rcases seqD_eq hd with rfl | rfl
  · exact ⟨_, _, rfl, by rw [List.length_map]; exact q⟩
  · exact ⟨_, _, rfl, by rw [List.length_map]; exact q⟩
theorem wO_len (hd : seqD d1 = some a) (q : Q .st (.int (a.length : Nat))) : wpO (gLen d1) Q := by
  rcases seqD_eq hd with rfl | rfl
  · exact ⟨_, _, rfl, q⟩
  · exact ⟨_, _, rfl, q⟩
theorem wO_list (hd : seqD d1 = some a) (q : Q .fr (.lst a)) : wpO (gList d1) Q := by
  rcases seqD_eq hd with rfl | rfl
  · exact ⟨_, _, rfl, q⟩
  · exact ⟨_, _, rfl, q⟩
theorem wO_tuple (hd : seqD d1 = some a) (q : Q .st (.tup a)) : wpO (gTuple d1) Q := by
  rcases seqD_eq hd with rfl | rfl
  · exact ⟨_, _, rfl, q⟩
  · exact ⟨_, _, rfl, q⟩
theorem wO_int (hi : intD d1 = some i) (q : Q .st (.int i)) : wpO (gInt d1) Q := by
  rw [intD_eq hi]
  exact ⟨_, _, rfl, q⟩
theorem wO_abs (hi : intD d1 = some i) (q : Q .st (.int (if i < 0 then -i else i))) : wpO (gAbs d1) Q := by
  rw [intD_eq hi]
  exact ⟨_, _, rfl, q⟩
theorem wO_max2 (hi : intD d1 = some i) (hj : intD d2 = some j) (q : Q .st (.int (if j > i then j else i))) : wpO (gMax2 d1 d2) Q := by
  rw [intD_eq hi, intD_eq hj]
  exact ⟨_, _, rfl, q⟩
theorem wO_min2 (hi : intD d1 = some i) (hj : intD d2 = some j) (q : Q .st (.int (if j < i then j else i))) : wpO (gMin2 d1 d2) Q := by
  rw [intD_eq hi, intD_eq hj]
  exact ⟨_, _, rfl, q⟩
theorem wO_isi {ts : List Ty5} {t : Bool} (h : isTs ts d = some t) (q : Q .st (.bl t)) : wpO (gIsi ts d) Q := ⟨_, _, by unfold gIsi; rw [h]; rfl, q⟩
theorem wO_rep_non (q : Q .st (.str "None")) : wpO (gRep0 .non) Q := ⟨_, _, rfl, q⟩
theorem wO_rep_bl {t : Bool} (hd : blD d1 = some t) (q : Q .st (.str (if t then "True" else "False"))) : wpO (gRep0 d1) Q := by
  rw [blD_eq hd]
  exact ⟨_, _, rfl, q⟩
theorem asB_maps (bs : List Bool) : asB (bs.map D.bl) = some bs := by
  induction bs with
  | nil => rfl
  | cons x bs ih => rw [List.map_cons]; unfold asB; rw [ih]; rfl
theorem asB_mapf {α : Type} (f : α → Bool) (xs : List α) : asB (xs.map fun x => D.bl (f x)) = some (xs.map f) := by
  have := asB_maps (xs.map f)
  rw [List.map_map] at this
  exact this
theorem wO_all {f : α → Bool} {xs : List α} (q : Q .st (.bl (xs.all f))) : wpO (gAll (.lst (xs.map fun x => D.bl (f x)))) Q := by
  refine ⟨_, _, ?_, q⟩
  show (asB (xs.map fun x => D.bl (f x))).bind _ = _
  rw [asB_mapf]
  simp [List.all_map]
theorem wO_any {f : α → Bool} {xs : List α} (q : Q .st (.bl (xs.any f))) : wpO (gAny (.lst (xs.map fun x => D.bl (f x)))) Q := by
  refine ⟨_, _, ?_, q⟩
  show (asB (xs.map fun x => D.bl (f x))).bind _ = _
  rw [asB_mapf]
  simp [List.any_map]
theorem wO_slL {l h : Option Int} (hd : lstD d1 = some a) (q : Q .fr (.lst (cutD a l h))) : wpO (gSl d1 l h) Q := by
  rw [lstD_eq hd]
  exact ⟨_, _, rfl, q⟩
theorem wO_slT {l h : Option Int} (hd : tupD d1 = some a) (q : Q .st (.tup (cutD a l h))) : wpO (gSl d1 l h) Q := by
  rw [tupD_eq hd]
  exact ⟨_, _, rfl, q⟩
theorem wO_revL (hd : lstD d1 = some a) (q : Q .fr (.lst a.reverse)) : wpO (gRev d1) Q := by
  rw [lstD_eq hd]
  exact ⟨_, _, rfl, q⟩
theorem wO_revT (hd : tupD d1 = some a) (q : Q .st (.tup a.reverse)) : wpO (gRev d1) Q := by
  rw [tupD_eq hd]
  exact ⟨_, _, rfl, q⟩
/-! bools -/
variable {T F : Prop}
theorem onBl_t (h : T) : onBl (.bl true) T F := ⟨true, rfl, fun _ => h, fun z => by cases z⟩
theorem onBl_f (h : F) : onBl (.bl false) T F := ⟨false, rfl, (fun z => by cases z), fun _ => h⟩
theorem onBl_nt (h : F) : onBl (.bl (!true)) T F := onBl_f h
theorem onBl_nf (h : T) : onBl (.bl (!false)) T F := onBl_t h
theorem onBl_dt {p : Prop} [Decidable p] (h : p) (q : T) : onBl (.bl (decide p)) T F := ⟨_, rfl, fun _ => q, fun z => absurd h (of_decide_eq_false z)⟩
theorem onBl_df {p : Prop} [Decidable p] (h : ¬ p) (q : F) : onBl (.bl (decide p)) T F := ⟨_, rfl, fun z => absurd (of_decide_eq_true z) h, fun _ => q⟩
theorem onBl_ndt {p : Prop} [Decidable p] (h : ¬ p) (q : T) : onBl (.bl (!decide p)) T F := by rw [decide_eq_false h]; exact onBl_t q
theorem onBl_ndf {p : Prop} [Decidable p] (h : p) (q : F) : onBl (.bl (!decide p)) T F := by rw [decide_eq_true h]; exact onBl_f q
theorem onBl_d {p : Prop} [Decidable p] (h : p → T) (q : ¬ p → F) : onBl (.bl (decide p)) T F := ⟨_, rfl, fun z => h (of_decide_eq_true z), fun z => q (of_decide_eq_false z)⟩
theorem onBl_nd {p : Prop} [Decidable p] (h : ¬ p → T) (q : p → F) : onBl (.bl (!decide p)) T F := ⟨_, rfl, fun z => h (by simpa using z), fun z => q (by simpa using z)⟩
theorem onBl_b {t : Bool} (h : t = true → T) (q : t = false → F) : onBl (.bl t) T F := ⟨_, rfl, h, q⟩
theorem onBl_n {t : Bool} (h : t = false → T) (q : t = true → F) : onBl (.bl (!t)) T F := ⟨_, rfl, fun z => h (by simpa using z), fun z => q (by simpa using z)⟩
end
/-! defs -/
/-- the slots at the start -/
def startR : Nat → List D → List (Option (Bool × D))
  | 0, _ => []
  | m + 1, d :: ds => some (false, d) :: startR m ds
  | m + 1, [] => none :: startR m []
theorem st_0 : startR 0 [] = [] := rfl
theorem st_d {m : Nat} {d : D} {ds : List D} {r : List (Option (Bool × D))} (h : startR m ds = r) : startR (m + 1) (d :: ds) = some (false, d) :: r := by rw [← h]; rfl
theorem st_n {m : Nat} {r : List (Option (Bool × D))} (h : startR m [] = r) : startR (m + 1) [] = none :: r := by rw [← h]; rfl
theorem startR_eq : ∀ (m : Nat) (ds : List D), ds.length ≤ m → ds.map (fun d => some (false, d)) ++ List.replicate (m - ds.length) none = startR m ds
  | 0, [], _ => rfl
  | 0, d :: ds, h => absurd h (by simp)
  | m + 1, [], _ => by
    have := startR_eq m [] (Nat.zero_le _)
    simp only [List.map_nil, List.nil_append, List.length_nil, Nat.sub_zero] at this ⊢
    rw [List.replicate_succ, this]
    rfl
  | m + 1, d :: ds, h => by
    have := startR_eq m ds (by simpa using h)
    rw [List.map_cons, List.cons_append, List.length_cons, Nat.add_sub_add_right, this]
    rfl
theorem set_0 {α : Type} {a x : α} {r : List α} : (a :: r).set 0 x = x :: r := rfl
theorem set_s {α : Type} {a x : α} {r r' : List α} {i : Nat} (h : r.set i x = r') : (a :: r).set (i + 1) x = a :: r' := by rw [← h]; rfl
theorem wF_run {m : Nat} {f : SF} {ds : List D} {W : Wd} {r : List (Option (Bool × D))} {Q : QR} {X : QXF} (hl : Nat.ble ds.length m = true) (hc : startR m ds = r) (h : wpS (f ⟨r, W⟩) ⟨fun c => Q false .non c.W, Q, fun _ => False, fun _ => False, fun x c => X x c.W⟩) : wpF (runD m f ds W) Q X := by
  subst hc
  unfold runD
  show wpF (match f (startC m ds W) with
    | .nx c => .ret false .non c.W
    | .ret fr d W => .ret fr d W
    | .exc x c => .exc x c.W
    | _ => .bad) Q X
  have h' : wpS (f (startC m ds W)) ⟨fun c => Q false .non c.W, Q, fun _ => False, fun _ => False, fun x c => X x c.W⟩ := by
    unfold startC
    rw [startR_eq m ds (Nat.le_of_ble_eq_true hl)]
    exact h
  cases e : f (startC m ds W) with
  | nx c1 => rw [e] at h'; exact h'
  | ret fr d W => rw [e] at h'; exact h'
  | brk c1 => rw [e] at h'; exact h'.h.elim
  | cnt c1 => rw [e] at h'; exact h'.h.elim
  | exc x W => rw [e] at h'; exact h'
  | bad => rw [e] at h'; exact h'.h.elim
theorem lt_of_ble {i n : Nat} (h : Nat.ble (i + 1) n = true) : i < n := Nat.le_of_ble_eq_true h
theorem le_of_ble {i n : Nat} (h : Nat.ble i n = true) : i ≤ n := Nat.le_of_ble_eq_true h
/-- one frame's tail: what is returned -/
theorem QS_eta (Q : QS) : (⟨Q.n, Q.r, Q.b, Q.c, Q.x⟩ : QS) = Q := rfl
end DL
namespace DL
open PySem PySem.Spec PyProof.Rows L2
/-! ### data of little depth; kinds that are told apart by equality -/
def Gd (k : Nat) (d : D) : Prop := ∃ q, D.py d = some q ∧ PyData.canLay0 q = true ∧ PyData.depth q ≤ k
theorem gdL {k : Nat} : ∀ ds : List D, (∀ d ∈ ds, Gd k d) → ∃ qs, pyL ds = some qs ∧ PyData.canLayAll0 qs = true ∧ PyData.depthAll qs ≤ k ∧ qs.length = ds.length
  | [], _ => ⟨[], pyL_nil, by simp only [PyData.canLayAll0], by simp only [PyData.depthAll]; omega, rfl⟩
  | d :: ds, h => by
    obtain ⟨q, e1, e2, e3⟩ := h d List.mem_cons_self
    obtain ⟨qs, f1, f2, f3, f4⟩ := gdL ds (fun x hx => h x (List.mem_cons_of_mem _ hx))
    refine ⟨q :: qs, ?_, ?_, ?_, by simp [f4]⟩
    · rw [pyL_cons, e1]
      dsimp only
      rw [f1]
      rfl
    · simp only [PyData.canLayAll0, e2, f2, Bool.and_self]
    · simp only [PyData.depthAll]
      omega
theorem gd_int (k : Nat) (i : Int) : Gd k (.int i) := ⟨_, py_int, by simp only [PyData.canLay0], by simp only [PyData.depth]; omega⟩
theorem gd_bl (k : Nat) (b : Bool) : Gd k (.bl b) := ⟨_, py_bl, by simp only [PyData.canLay0], by simp only [PyData.depth]; omega⟩
theorem gd_non (k : Nat) : Gd k .non := ⟨_, py_non, by simp only [PyData.canLay0], by simp only [PyData.depth]; omega⟩
theorem gd_tup {k : Nat} {ds : List D} (h : ∀ d ∈ ds, Gd k d) : Gd (k + 1) (.tup ds) := by
  obtain ⟨qs, f1, f2, f3, _⟩ := gdL ds h
  exact ⟨.tuple qs, by rw [py_tup, f1]; rfl, by simp only [PyData.canLay0, f2], by simp only [PyData.depth]; omega⟩
theorem gd_lst {k : Nat} {ds : List D} (h : ∀ d ∈ ds, Gd k d) : Gd (k + 1) (.lst ds) := by
  obtain ⟨qs, f1, f2, f3, _⟩ := gdL ds h
  exact ⟨.list qs, by rw [py_lst, f1]; rfl, by simp only [PyData.canLay0, f2], by simp only [PyData.depth]; omega⟩
theorem gd_mono {k l : Nat} {d : D} (h : Gd k d) (hl : k ≤ l) : Gd l d := by
  obtain ⟨q, h1, h2, h3⟩ := h
  exact ⟨q, h1, h2, Nat.le_trans h3 hl⟩
theorem gd_shaped {k : Nat} {d : D} (h : Gd k d) (hk : k ≤ 64) : ∃ q, D.py d = some q ∧ SeqAt.shaped q = true := by
  obtain ⟨q, e, h1, h2⟩ := h
  refine ⟨q, e, ?_⟩
  unfold SeqAt.shaped
  rw [h1, Bool.true_and]
  exact decide_eq_true (by omega)
/-- a kind whose data are told apart -/
structure Eqv {α : Type} (e : α → D) (k : Nat) : Prop where
  gd : ∀ a, Gd k (e a)
  eq : ∀ a b p q, (e a).py = some p → (e b).py = some q → (PyData.eqv p q = true ↔ a = b)
theorem eqv_int : Eqv (fun i : Int => D.int i) 0 := ⟨gd_int 0, fun a b p q h1 h2 => by
  rw [py_int] at h1 h2
  cases h1; cases h2
  simp [PyData.eqv]⟩
theorem eqv_nat : Eqv (fun i : Nat => D.int (i : Int)) 0 := ⟨fun a => gd_int 0 _, fun a b p q h1 h2 => by
  rw [py_int] at h1 h2
  cases h1; cases h2
  simp [PyData.eqv]
  omega⟩
theorem eqv_bl : Eqv (fun i : Bool => D.bl i) 0 := ⟨gd_bl 0, fun a b p q h1 h2 => by
  rw [py_bl] at h1 h2
  cases h1; cases h2
  simp [PyData.eqv]⟩
theorem eqvL {α : Type} {e : α → D} {k : Nat} (h : Eqv e k) : ∀ (as bs : List α) (ps qs : List PyData), pyL (as.map e) = some ps → pyL (bs.map e) = some qs → (PyData.eqvAll ps qs = true ↔ as = bs)
  | [], [], ps, qs, h1, h2 => by
    rw [List.map_nil, pyL_nil] at h1 h2
    cases h1; cases h2
    simp [PyData.eqvAll]
  | [], b :: bs, ps, qs, h1, h2 => by
    rw [List.map_nil, pyL_nil] at h1
    rw [List.map_cons, pyL_cons] at h2
    cases h1
    revert h2
    cases (e b).py with
    | none => intro h; cases h
    | some q =>
      cases pyL (bs.map e) with
      | none => intro h; cases h
      | some l =>
        intro h
        cases h
        simp [PyData.eqvAll]
  | a :: as, [], ps, qs, h1, h2 => by
    rw [List.map_nil, pyL_nil] at h2
    rw [List.map_cons, pyL_cons] at h1
    cases h2
    revert h1
    cases (e a).py with
    | none => intro h; cases h
    | some q =>
      cases pyL (as.map e) with
      | none => intro h; cases h
      | some l =>
        intro h
        cases h
        simp [PyData.eqvAll]
  | a :: as, b :: bs, ps, qs, h1, h2 => by
    rw [List.map_cons, pyL_cons] at h1 h2
    have ha := h.eq a b
    revert h1 h2 ha
    cases (e a).py with
    | none => intro h; cases h
    | some p =>
      cases hps : pyL (as.map e) with
      | none => intro h; cases h
      | some l =>
        cases (e b).py with
        | none => intro _ h; cases h
        | some q =>
          cases hqs : pyL (bs.map e) with
          | none => intro _ h; cases h
          | some m =>
            intro h1 h2 ha
            cases h1
            cases h2
            have := eqvL h as bs l m hps hqs
            simp only [PyData.eqvAll, Bool.and_eq_true, ha p q rfl rfl, this, List.cons.injEq]
theorem eqv_lst {α : Type} {e : α → D} {k : Nat} (h : Eqv e k) : Eqv (fun as : List α => D.lst (as.map e)) (k + 1) := ⟨fun as => gd_lst fun d hd => by
  obtain ⟨a, _, rfl⟩ := List.mem_map.mp hd
  exact h.gd a, fun as bs p q h1 h2 => by
  rw [py_lst] at h1 h2
  have := eqvL h as bs
  revert h1 h2 this
  cases pyL (as.map e) with
  | none => intro h; cases h
  | some l =>
    cases pyL (bs.map e) with
    | none => intro _ h; cases h
    | some m =>
      intro h1 h2 h3
      cases h1
      cases h2
      simp only [PyData.eqv, h3 l m rfl rfl]⟩
theorem eqv_tup {α : Type} {e : α → D} {k : Nat} (h : Eqv e k) : Eqv (fun as : List α => D.tup (as.map e)) (k + 1) := ⟨fun as => gd_tup fun d hd => by
  obtain ⟨a, _, rfl⟩ := List.mem_map.mp hd
  exact h.gd a, fun as bs p q h1 h2 => by
  rw [py_tup] at h1 h2
  have := eqvL h as bs
  revert h1 h2 this
  cases pyL (as.map e) with
  | none => intro h; cases h
  | some l =>
    cases pyL (bs.map e) with
    | none => intro _ h; cases h
    | some m =>
      intro h1 h2 h3
      cases h1
      cases h2
      simp only [PyData.eqv, h3 l m rfl rfl]⟩
theorem eqv_pair {α β : Type} {e : α → D} {f : β → D} {k : Nat} (h : Eqv e k) (g : Eqv f k) : Eqv (fun p : α × β => D.tup [e p.1, f p.2]) (k + 1) := ⟨fun p => gd_tup fun d hd => by
  rcases List.mem_cons.mp hd with rfl | hd
  · exact h.gd _
  rcases List.mem_cons.mp hd with rfl | hd
  · exact g.gd _
  exact absurd hd List.not_mem_nil, fun a b p q h1 h2 => by
  rw [py_tup, pyL_cons, pyL_cons, pyL_nil] at h1 h2
  have ha := h.eq a.1 b.1
  have hb := g.eq a.2 b.2
  revert h1 h2 ha hb
  cases (e a.1).py with
  | none => intro h; cases h
  | some p1 =>
    cases (f a.2).py with
    | none => intro h; cases h
    | some p2 =>
      cases (e b.1).py with
      | none => intro _ h; cases h
      | some q1 =>
        cases (f b.2).py with
        | none => intro _ h; cases h
        | some q2 =>
          intro h1 h2 ha hb
          cases h1
          cases h2
          simp only [PyData.eqv, PyData.eqvAll, Bool.and_eq_true, ha p1 q1 rfl rfl, hb p2 q2 rfl rfl, and_true]
          rw [Prod.ext_iff]⟩
theorem eqv_tri {α β γ : Type} {e : α → D} {f : β → D} {g : γ → D} {k : Nat} (h : Eqv e k) (h' : Eqv f k) (h'' : Eqv g k) : Eqv (fun p : α × β × γ => D.tup [e p.1, f p.2.1, g p.2.2]) (k + 1) := ⟨fun p => gd_tup fun d hd => by
  rcases List.mem_cons.mp hd with rfl | hd
  · exact h.gd _
  rcases List.mem_cons.mp hd with rfl | hd
  · exact h'.gd _
  rcases List.mem_cons.mp hd with rfl | hd
  · exact h''.gd _
  exact absurd hd List.not_mem_nil, fun a b p q h1 h2 => by
  rw [py_tup, pyL_cons, pyL_cons, pyL_cons, pyL_nil] at h1 h2
  have ha := h.eq a.1 b.1
  have hb := h'.eq a.2.1 b.2.1
  have hc := h''.eq a.2.2 b.2.2
  revert h1 h2 ha hb hc
  cases (e a.1).py with
  | none => intro h; cases h
  | some p1 =>
    cases (f a.2.1).py with
    | none => intro h; cases h
    | some p2 =>
      cases (g a.2.2).py with
      | none => intro h; cases h
      | some p3 =>
        cases (e b.1).py with
        | none => intro _ h; cases h
        | some q1 =>
          cases (f b.2.1).py with
          | none => intro _ h; cases h
          | some q2 =>
            cases (g b.2.2).py with
            | none => intro _ h; cases h
            | some q3 =>
              intro h1 h2 ha hb hc
              cases h1
              cases h2
              simp only [PyData.eqv, PyData.eqvAll, Bool.and_eq_true, ha p1 q1 rfl rfl, hb p2 q2 rfl rfl, hc p3 q3 rfl rfl, and_true]
              rw [Prod.ext_iff, Prod.ext_iff]⟩
theorem eqD_of {α : Type} [DecidableEq α] {e : α → D} {k : Nat} (h : Eqv e k) (hk : k ≤ 64) (a b : α) : eqD (e a) (e b) = some (decide (a = b)) := by
  obtain ⟨p, h1, h2⟩ := gd_shaped (h.gd a) hk
  obtain ⟨q, h3, h4⟩ := gd_shaped (h.gd b) hk
  unfold eqD
  rw [h1, h3]
  dsimp only
  rw [h2, h4]
  have := h.eq a b p q h1 h3
  by_cases hab : a = b
  · rw [decide_eq_true hab]
    simp [this.mpr hab]
  · rw [decide_eq_false hab]
    have : PyData.eqv p q = false := by
      cases hh : PyData.eqv p q with
      | false => rfl
      | true => exact absurd (this.mp hh) hab
    simp [this]
theorem gEq_of {α : Type} [DecidableEq α] {e : α → D} {k : Nat} (h : Eqv e k) (hk : k ≤ 64) (a b : α) : gEq (e a) (e b) = some (.st, .bl (decide (a = b))) := by unfold gEq; rw [eqD_of h hk]; rfl
theorem gNe_of {α : Type} [DecidableEq α] {e : α → D} {k : Nat} (h : Eqv e k) (hk : k ≤ 64) (a b : α) : gNe (e a) (e b) = some (.st, .bl (!decide (a = b))) := by unfold gNe; rw [eqD_of h hk]; rfl
/-- a list against [] -/
theorem eqD_nilS {ds : List D} {k : Nat} (h : ∀ d ∈ ds, Gd k d) (hk : k ≤ 60) : eqD (.lst ds) (.lst []) = some ds.isEmpty := by
  obtain ⟨q, e1, e2⟩ := gd_shaped (gd_lst h) (by omega)
  obtain ⟨q', e3, e4⟩ := gd_shaped (gd_lst (k := 0) (ds := []) (fun d hd => by cases hd)) (by omega)
  have h1 := e1
  have h3 := e3
  unfold eqD
  rw [h1, h3]
  dsimp only
  rw [e2, e4]
  rw [py_lst] at e1 e3
  rw [pyL_nil] at e3
  cases e3
  cases ds with
  | nil =>
    rw [pyL_nil] at e1
    cases e1
    simp [PyData.eqv, PyData.eqvAll]
  | cons d ds =>
    rw [pyL_cons] at e1
    revert e1
    cases d.py with
    | none => intro h; cases h
    | some p =>
      cases pyL ds with
      | none => intro h; cases h
      | some l =>
        intro h
        cases h
        simp [PyData.eqv, PyData.eqvAll]
theorem gEq_nilS {ds : List D} {k : Nat} (h : ∀ d ∈ ds, Gd k d) (hk : k ≤ 60) : gEq (.lst ds) (.lst []) = some (.st, .bl ds.isEmpty) := by unfold gEq; rw [eqD_nilS h hk]; rfl
theorem gNe_nilS {ds : List D} {k : Nat} (h : ∀ d ∈ ds, Gd k d) (hk : k ≤ 60) : gNe (.lst ds) (.lst []) = some (.st, .bl (!ds.isEmpty)) := by unfold gNe; rw [eqD_nilS h hk]; rfl
theorem gd_map {α : Type} {e : α → D} {k : Nat} (h : ∀ a, Gd k (e a)) (xs : List α) : ∀ d ∈ xs.map e, Gd k d := fun d hd => by
  obtain ⟨a, _, rfl⟩ := List.mem_map.mp hd
  exact h a
/-! ### small facts -/
theorem dec_nat (a b : Nat) : decide ((a : Int) = (b : Int)) = decide (a = b) := by
  rw [decide_eq_decide]
  omega
theorem rng0 (n : Nat) : rngD 0 n = (List.range n).map fun i : Nat => D.int (i : Int) := by
  unfold rngD
  refine List.map_congr_left fun i _ => ?_
  rw [Int.zero_add]
theorem mulOk_small {i j : Int} (h : -(2 ^ 64) < i ∧ i < 2 ^ 64) : mulOk i j = true := by
  unfold mulOk
  rw [decide_eq_true h.1, decide_eq_true h.2]
  rfl
theorem fdivOk_small {j : Int} (h : 0 < j ∧ j < 2 ^ 64) : fdivOk j = true := by
  unfold fdivOk
  rw [Bool.and_eq_true]
  refine ⟨decide_eq_true h.1, decide_eq_true ?_⟩
  have : j.natAbs.log2 < 64 := (Nat.log2_lt (by omega)).mpr (by omega)
  omega
/-- the deal as it stands -/
structure WOk1 (W : Wd) : Prop where
  l : W.1.length ≤ 1000
theorem trimZ_len (ns : List Int) : (trimZ ns).length ≤ ns.length := by
  unfold trimZ
  rw [List.length_reverse]
  have := (List.dropWhile_sublist (fun x : Int => decide (x = 0)) (l := ns.reverse)).length_le
  rw [List.length_reverse] at this
  exact this
theorem anyW_ok {W : Wd} (h : WOk1 W) (b : Int) : WOk1 (anyW W b).2 := by
  refine ⟨?_⟩
  have h1 := h.l
  have h2 := trimZ_len W.1
  unfold anyW
  cases hl : lastI (trimZ W.1) with
  | none => simp
  | some n =>
    have h3 : (trimZ W.1).length ≠ 0 := by
      intro z
      have : trimZ W.1 = [] := List.eq_nil_of_length_eq_zero z
      rw [this] at hl
      cases hl
    simp
    omega
theorem anyW_in {W : Wd} {b : Int} (h : 0 < b) : 0 ≤ (anyW W b).1 ∧ (anyW W b).1 < b := by
  unfold anyW
  cases lastI (trimZ W.1) with
  | none => exact ⟨Int.emod_nonneg _ (by omega), Int.emod_lt_of_pos _ h⟩
  | some n => exact ⟨Int.emod_nonneg _ (by omega), Int.emod_lt_of_pos _ h⟩
/-- a draw: some number below the bound -/
theorem any_ex {W : Wd} {n : Nat} (hW : WOk1 W) (h0 : 0 < n) (h1 : n < 2 ^ 60) : ∃ (k : Nat) (W' : Wd), k < n ∧ WOk1 W' ∧ F__law_any [.deal, .int (n : Int)] W = .ret false (.int (k : Int)) W' := by
  have hb : (0 : Int) < (n : Int) := by omega
  obtain ⟨g1, g2⟩ := anyW_in (W := W) hb
  refine ⟨(anyW W n).1.toNat, (anyW W n).2, by omega, anyW_ok hW n, ?_⟩
  have hf : fdivOk (n : Int) = true := by
    unfold fdivOk
    rw [Bool.and_eq_true]
    refine ⟨decide_eq_true hb, decide_eq_true ?_⟩
    have : ((n : Int).natAbs).log2 < 60 := by
      rw [Int.natAbs_natCast]
      exact (Nat.log2_lt (by omega)).mpr h1
    omega
  have hok : anyOk W (n : Int) = true := by
    unfold anyOk
    rw [hf, Bool.true_and]
    exact decide_eq_true hW.l
  show (if anyOk W (n : Int) then FR.ret false (.int (anyW W n).1) (anyW W n).2 else .bad) = _
  rw [if_pos hok, Int.toNat_of_nonneg g1]
end DL
namespace DL
open PySem PySem.Spec PyProof.Rows L2
/-! ### repr of data -/
/-- what can be shown: numbers not too long, no dict, little depth, a text that is not too long -/
def repOk (p : PyData) : Bool := p.showable && (!p.hasDict && (decide (p.depth ≤ 64) && decide (p.shown.length ≤ big)))
structure RepOk (p : PyData) : Prop where
  sh : p.showable = true
  nd : p.hasDict = false
  dp : p.depth ≤ 64
  ln : p.shown.length ≤ big
theorem repOk_iff {p : PyData} : repOk p = true ↔ RepOk p := by
  unfold repOk
  rw [Bool.and_eq_true, Bool.and_eq_true, Bool.and_eq_true, decide_eq_true_eq, decide_eq_true_eq, Bool.not_eq_true']
  exact ⟨fun ⟨a, b, c, d⟩ => ⟨a, b, c, d⟩, fun ⟨a, b, c, d⟩ => ⟨a, b, c, d⟩⟩
def gRep (d : D) : Option (Kd × D) := match d.py with
  | some p => if repOk p then some (.st, .str p.shown) else none
  | none => none
def rRepD (K : PySem.W.Frag) : List V → Hp → VK → Prop := fun xs H Q => ∃ (x : V) (p : PyData), xs = [x] ∧ Dp K H x p ∧ RepOk p ∧ Q (.str p.shown) H
section
variable {X : Cx} {A : Am}
theorem cr_repD (hg : X.A.guards = some []) (hu : X.A.units + 66 < cLine) : CallR X (.builtin "repr") (rRepD X.K) := by
  intro pins s σ H xs us Q I r h
  obtain ⟨x, p, rfl, hd, ok, q⟩ := h
  obtain ⟨u, rfl, ru⟩ := r.one
  have hz : p.shown.length ≤ sizeLine := big_le ok.ln
  cases hd with
  | non =>
    obtain rfl : u = Value.none := ru
    simp only [PyData.shown] at q
    exact PySem.P.repr_of_none ⟨.str "None", H, I.tok _, ⟨_, rfl⟩, q⟩
  | bl b =>
    obtain rfl : u = Value.bool b := ru
    simp only [PyData.shown] at q
    exact PySem.P.repr_of_bool ⟨.str (if b then "True" else "False"), H, I.tok _, ⟨_, rfl⟩, q⟩
  | int i =>
    obtain ⟨t, rfl⟩ := ru
    simp only [PyData.shown] at q
    exact PySem.P.repr_of_int (by have := ok.sh; simpa [PyData.showable] using this) ⟨.str (toString i), H, I.tok _, ⟨_, rfl⟩, q⟩
  | str y =>
    obtain ⟨t, rfl⟩ := ru
    simp only [PyData.shown] at q hz
    exact PySem.P.repr_of_str ⟨.str (reprText y), H, I.tok _, ⟨_, rfl⟩, q⟩ hz
  | lst h1 h2 =>
    obtain ⟨as, rd⟩ := Dp.reads I _ _ u (.lst h1 h2) ru
    obtain rfl : u = Value.ref _ := ru
    exact repr_of_reads' rd ok.sh (PyData.noDict_hsm ok.nd) hg (by have := ok.dp; omega) (fun _ _ e => e) (fun h' t tk hk => ⟨.str _, H, I.kept hk, ⟨_, rfl⟩, q⟩) hz
  | tup h1 h2 =>
    obtain ⟨as, rd⟩ := Dp.reads I _ _ u (.tup h1 h2) ru
    obtain rfl : u = Value.ref _ := ru
    exact repr_of_reads' rd ok.sh (PyData.noDict_hsm ok.nd) hg (by have := ok.dp; omega) (fun _ _ e => e) (fun h' t tk hk => ⟨.str _, H, I.kept hk, ⟨_, rfl⟩, q⟩) hz
theorem cd_rep (hK : X.K = A.K) (hg : X.A.guards = some []) (hu : X.A.units + 66 < cLine) : CaD1 X A (.builtin "repr") gRep := by
  refine ⟨_, cr_repD hg hu, fun B Hb H σ c da x k d Q s hx e q => ?_⟩
  unfold gRep at e
  cases hp : da.py with
  | none => rw [hp] at e; cases e
  | some p =>
    rw [hp] at e
    dsimp only at e
    split at e
    · rename_i hok
      cases e
      refine ⟨x, p, rfl, ?_, repOk_iff.mp hok, q _ Hb H s .refl rk_str⟩
      rw [hK]
      exact (hx.whole s.same).dp _ _ _ hp
    · cases e
end
end DL
namespace DL
open PySem PySem.Spec PyProof.Rows L2
/-! ### the law's call, with tables of code objects, where no guard stands -/
/-- what is tracked at the entry: the tables, the script if the module does not hold it -/
def entH (T : List Addr) (a : Addr) (u : HO) : Hp := fun b => if b ∈ T then some (.tbl #[]) else if b = a then some u else none
def entH0 (T : List Addr) : Hp := fun b => if b ∈ T then some (.tbl #[]) else none
/-- the law's promise at the entry s -/
def AtEntry (P : Program) (w : World) (K : PySem.W.Frag) (mg : Str → Option Value) (cs : List (Addr × Addr)) (s : Shared) (fa a : Addr) (ns : List Int) : Prop :=
  ∀ (base : Heap) (H : Hp), K.In base → base.Ns mainGlobals mg → (∀ p ∈ cs, LamX.TabB base mg p.1 p.2) → Env0 P w K mg base callerA [] s H → (∀ p ∈ cs, H p.2 = some (.tbl #[])) → SqL K H a (ns.map V.int) →
    codeAny (model P w) callerA (.call (.ref fa) ⟨[.ref a], []⟩) (CR (L2.CX P w) [] P w H s (fun v _ => v = .bl true) fun _ _ _ => False) s
section
variable {P : Program} {w : World} {K : PySem.W.Frag} {mg mb : Str → Option Value} {fa a : Addr} {cs : List (Addr × Addr)} {s : Shared} {vs : List Value} {ns : List Int}
/-- from one such H to the end -/
theorem entry_from (H : Hp) (KX : K.In s.heap) (hns : s.heap.Ns mainGlobals mg) (hb : s.heap.Ns builtinsNs mb) (hbb : ∀ x : Str, x ≠ "__name__" → mb x = bootBuiltins x) (hlim : s.heap.NoLimit) (hgen : s.gens = #[])
    (hT : ∀ p ∈ cs, s.heap.get? p.2 = some { cls := .none, data := .fields #[] }) (C : ∀ p ∈ cs, PySem.W.CodeHd s.heap p.1 p.2)
    (hbm : ∃ (bm : Addr) (ob : Obj), mg "__builtins__" = some (.ref bm) ∧ bm ≠ builtinsNs ∧ s.heap.get? bm = some ob ∧ ob.cls = .type "module" ∧ ob.dict = some builtinsNs ∧ ob.data = .plain)
    (run : AtEntry P w K mg cs s fa a ns)
    (h1 : ∀ p ∈ cs, H p.2 = some (.tbl #[])) (h2 : ∀ b u, H b = some u → (b ∈ cs.map (·.2) ∧ u = .tbl #[]) ∨ ∃ o xs n it, u = .frz o (.lst xs) ∧ s.heap.get? b = some o ∧ o.data = .seq it n) (h3 : ∀ b, H b ≠ none → K.lookup b = none)
    (hS : SqL K H a (ns.map V.int)) (hok : HOk P w H s.heap) :
    codeAny (model P w) callerA (.call (.ref fa) ⟨[.ref a], []⟩) (fun r s' => r = .ok (.ret (.bool true)) ∧ OldK s.heap s'.heap ∧ s'.os = s.os ∧ AllBare s'.gens) s := by
  have tabAt : ∀ b : Addr, b ∈ cs.map (·.2) → s.heap.get? b = some { cls := .none, data := .fields #[] } := fun b hb => by
    obtain ⟨p, hp, rfl⟩ := List.mem_map.mp hb
    exact hT p hp
  -- what is neither a list nor an empty row of fields is not tracked
  have free : ∀ (b : Addr) (o : Obj), s.heap.get? b = some o → (∀ it n, o.data ≠ .seq it n) → o.data ≠ .fields #[] → H b = none := fun b o e g1 g2 => by
    cases q : H b with
    | none => rfl
    | some u =>
      rcases h2 b u q with ⟨hb, _⟩ | ⟨o', xs, n, it, _, e', d'⟩
      · rw [tabAt b hb] at e
        cases e
        exact (g2 rfl).elim
      · rw [e] at e'
        cases e'
        exact (g1 it n d').elim
  have keepNs : ∀ (b : Addr) (m : Str → Option Value), s.heap.Ns b m → (hidT s.heap H).Ns b m := fun b m ⟨o, es, ep, e, d, r⟩ => by
    refine ⟨o, es, ep, hidT_get e (free b o e (fun it n z => ?_) fun z => ?_), d, r⟩ <;> (rw [d] at z; cases z)
  have inB : K.In (hidT s.heap H) := fun b o e => hidT_get (KX b o e) (by
    cases q : H b with
    | none => rfl
    | some u =>
      have := h3 b (by rw [q]; intro z; cases z)
      rw [this] at e
      cases e)
  have limB : (hidT s.heap H).NoLimit := by
    obtain ⟨m, l1, l2⟩ := hlim
    exact ⟨m, keepNs _ _ l1, l2⟩
  have md : L2.Mod K mg (hidT s.heap H) := ⟨inB, keepNs _ _ hns, ⟨mb, keepNs _ _ hb, hbb⟩, limB⟩
  have tabs : ∀ p ∈ cs, LamX.TabB (hidT s.heap H) mg p.1 p.2 := fun p hp => by
    have tp := hT p hp
    have notNs : ∀ (b : Addr) (m : Str → Option Value), s.heap.Ns b m → b ≠ p.2 := fun b m ⟨o, es, ep, e, d, _⟩ z => by
      rw [z, tp] at e
      cases e
      cases d
    refine ⟨?_, ?_, notNs _ _ hns⟩
    · obtain ⟨o, us, f1, f2, f3, f4, f5, f6, f7, g, r1, r2, r3, rest⟩ := C p hp
      refine ⟨o, us, f1, f2, f3, f4, f5, f6, f7, hidT_get g (free _ o g (fun it n z => ?_) fun z => ?_), r1, r2, r3, rest⟩
      · rw [r2] at z
        cases z
      · rw [r2] at z
        cases z
        simp at r3
    · obtain ⟨bm, ob, b1, b2, b3, b4, b5, b6⟩ := hbm
      have fb : H bm = none := free bm ob b3 (fun it n z => by rw [b6] at z; cases z) (fun z => by rw [b6] at z; cases z)
      refine ⟨bm, ob, b1, b2, fun z => ?_, fun z => ?_, hidT_get b3 fb, b4, b5, b6⟩
      · obtain ⟨o, es, ep, e, d, _⟩ := hns
        rw [← z, b3] at e
        cases e
        rw [b6] at d
        cases d
      · rw [z, tp] at b3
        cases b3
        cases b6
  have e0 : Env0 P w K mg (hidT s.heap H) callerA [] s H :=
    { frames := rfl, mod := md, bs := fun b o e => of_hidT e, bsz := by rw [hidT_size]; exact Nat.le_refl _, funs := trivial, frf := fun b z => absurd z (List.not_mem_nil (a := b)), hok := hok, bare := .of_eq hgen }
  refine codeAny_mono (run _ H inB (keepNs _ _ hns) tabs e0 h1 hS) fun r s' end_ => ?_
  cases r with
  | error e => exact (cx_none end_).elim
  | ok fl =>
    cases fl with
    | next => exact False.elim end_
    | brk => exact False.elim end_
    | cont => exact False.elim end_
    | ret u =>
      obtain ⟨v, H', os, bare, un, ok', rv, rfl⟩ := end_
      obtain rfl : u = Value.bool true := rv
      -- what stood before stands as it was; a table may have grown
      have stays : ∀ (b : Addr) (o : Obj), b ∉ cs.map (·.2) → s.heap.get? b = some o → s'.heap.get? b = some o := fun b o nb e => by
        cases q : H b with
        | none => exact un.keep b o e q (fun z => absurd z (List.not_mem_nil (a := b))) (fun z => absurd z (List.not_mem_nil (a := b)))
        | some u =>
          rcases h2 b u q with ⟨hb, _⟩ | ⟨o', xs, n, it, rfl, e', _⟩
          · exact absurd hb nb
          · obtain ⟨now, _⟩ := ok' b _ (un.frzs b o' _ q)
            rw [e] at e'
            cases e'
            exact now
      have grows : ∀ (b : Addr), b ∈ cs.map (·.2) → ∃ p ∈ cs, p.2 = b ∧ ∃ more : Array Value, s'.heap.get? b = some { cls := .none, data := .fields more } := fun b hb => by
        obtain ⟨p, hp, rfl⟩ := List.mem_map.mp hb
        obtain ⟨more, z⟩ := un.tbls p.2 #[] (h1 p hp)
        exact ⟨p, hp, rfl, _, ok' p.2 _ z⟩
      refine ⟨rfl, { old := fun b o e => ?_, there := fun b o e => ?_ }, os, bare⟩
      · by_cases hb : b ∈ cs.map (·.2)
        · obtain ⟨p, hp, rfl, more, hm⟩ := grows b hb
          have e2 := e
          rw [hT p hp] at e2
          cases e2
          refine .inr (.inl ⟨((C p hp).tab (hT p hp)).isCodeTable, rfl, #[], more, rfl, ?_⟩)
          rw [Array.empty_append]
          exact hm
        · exact .inl (stays b o hb e)
      · by_cases hb : b ∈ cs.map (·.2)
        · obtain ⟨_, _, _, more, hm⟩ := grows b hb
          exact ⟨_, hm⟩
        · exact ⟨o, stays b o hb e⟩
theorem entry (KX : K.In s.heap) (hns : s.heap.Ns mainGlobals mg) (hb : s.heap.Ns builtinsNs mb) (hbb : ∀ x : Str, x ≠ "__name__" → mb x = bootBuiltins x) (hlim : s.heap.NoLimit) (hgen : s.gens = #[])
    (hT : ∀ p ∈ cs, s.heap.get? p.2 = some { cls := .none, data := .fields #[] }) (nT : ∀ p ∈ cs, K.lookup p.2 = none) (C : ∀ p ∈ cs, PySem.W.CodeHd s.heap p.1 p.2)
    (hbm : ∃ (bm : Addr) (ob : Obj), mg "__builtins__" = some (.ref bm) ∧ bm ≠ builtinsNs ∧ s.heap.get? bm = some ob ∧ ob.cls = .type "module" ∧ ob.dict = some builtinsNs ∧ ob.data = .plain)
    (ha : s.heap.get? a = some { cls := .type "list", data := .seq vs.toArray }) (hi : IntsAre vs ns) (hl : ns.length ≤ sizeLine) (run : AtEntry P w K mg cs s fa a ns) :
    codeAny (model P w) callerA (.call (.ref fa) ⟨[.ref a], []⟩) (fun r s' => r = .ok (.ret (.bool true)) ∧ OldK s.heap s'.heap ∧ s'.os = s.os ∧ AllBare s'.gens) s := by
  have vals := vals_ints hi
  have lv := hi.length
  have nK : ∀ b, b ∈ cs.map (·.2) → K.lookup b = none := fun b hb => by
    obtain ⟨p, hp, rfl⟩ := List.mem_map.mp hb
    exact nT p hp
  have tabAt : ∀ b : Addr, b ∈ cs.map (·.2) → s.heap.get? b = some { cls := .none, data := .fields #[] } := fun b hb => by
    obtain ⟨p, hp, rfl⟩ := List.mem_map.mp hb
    exact hT p hp
  have na : a ∉ cs.map (·.2) := fun z => by
    have := tabAt a z
    rw [ha] at this
    cases congrArg (fun o : Option Obj => o.map Obj.data) this
  have mem2 : ∀ p ∈ cs, p.2 ∈ cs.map (·.2) := fun p hp => List.mem_map.mpr ⟨p, hp, rfl⟩
  cases hk : K.lookup a with
  | some o =>
    have e := KX a o hk
    rw [ha] at e
    cases e
    refine entry_from (entH0 (cs.map fun p : Addr × Addr => p.2)) KX hns hb hbb hlim hgen hT C hbm run (fun p hp => if_pos (mem2 p hp)) (fun b u z => ?_) (fun b z => ?_) (.inr ⟨_, vs.toArray, _, hk, rfl, rfl, rfl, by rw [List.size_toArray, lv]; exact hl, by simpa using vals⟩) (fun b u z => ?_)
    · unfold entH0 at z
      split at z
      · rename_i hb
        exact .inl ⟨hb, (Option.some.inj z).symm⟩
      · cases z
    · unfold entH0 at z
      split at z
      · rename_i hb
        exact nK b hb
      · exact absurd rfl z
    · unfold entH0 at z
      split at z
      · rename_i hb
        cases z
        exact tabAt b hb
      · cases z
  | none =>
    have off : entH (cs.map fun p : Addr × Addr => p.2) a (.frz { cls := .type "list", data := .seq vs.toArray } (.lst (ns.map V.int))) a = some (.frz { cls := .type "list", data := .seq vs.toArray } (.lst (ns.map V.int))) := by
      unfold entH
      rw [if_neg na, if_pos rfl]
    refine entry_from (entH (cs.map fun p : Addr × Addr => p.2) a (.frz { cls := .type "list", data := .seq vs.toArray } (.lst (ns.map V.int)))) KX hns hb hbb hlim hgen hT C hbm run (fun p hp => if_pos (mem2 p hp)) (fun b u z => ?_) (fun b z => ?_) (.inl (.inr ⟨_, off⟩)) (fun b u z => ?_)
    · unfold entH at z
      split at z
      · rename_i hb
        exact .inl ⟨hb, (Option.some.inj z).symm⟩
      · split at z
        · rename_i hb
          cases z
          exact .inr ⟨_, _, _, _, rfl, by rw [hb]; exact ha, rfl⟩
        · cases z
    · unfold entH at z
      split at z
      · rename_i hb
        exact nK b hb
      · split at z
        · rename_i hb
          rw [hb]
          exact hk
        · exact absurd rfl z
    · unfold entH at z
      split at z
      · rename_i hb
        cases z
        exact tabAt b hb
      · split at z
        · rename_i hb
          cases z
          subst hb
          exact ⟨ha, by rw [List.length_map]; exact hl, vs, _, vals, ha⟩
        · cases z
end
end DL
namespace PySem
theorem ESX0.ldN {M : Model} {A : Around} {E : Value → Shared → Prop} {s : Shared} {env : Env} {m : Str → Option Value} {x : Str} {pos : Pos} {v : Value} {hh : Heap} {Q : Value → Shared → Prop} (hk : env.scope.kind = .function) (hl : env.kindOf x = some .local) (hn : hh.Ns env.locals m) (hs : s.heap = hh) (hv : m x = some v) (hd : (x == ("__debug__" : Str)) = false) (h : Q v s) : wpAny M A (eval (.Name x pos) env) Q E s :=
  wpAny_Name (wpAny_loadName_local hk hl (by rw [hs]; exact hn) hv h) hd
namespace OWX
open PySem.W PySem.Calls PyProof.Rows PySem.HandSPX
/-- super().__init__(text); self.at = at -/
abbrev atBody (txt : Str) (j : Nat) (p0 p1 p2 p3 p4 p5 p6 p7 p8 p9 : Pos) : List Stmt :=
  [.Expr (.Call (.Attribute (.Call (.Name "super" p0) [] [] p1) "__init__" p2) [.Constant (.str txt) j p3] [] p4) p5, .Assign [.Attribute (.Name "self" p6) "at" p7] (.Name "at" p8) p9]
section
variable {prog : Program} {w : World} {A : Around} {E : Value → Shared → Prop} {R : Result → Shared → Prop} {K : Frag} {h : Heap} {g : Array GenState} {d : Drawn} {t : Nat} {os : OsState} {mg mb : Str → Option Value}
variable {nm q qn : Str} {C N x t0 : Addr} {bs bm : List Value} {sn : List Str} {sub : List Value} {ab : Bool} {col : Option Bool} {dd : Option Addr} {k0 k1 k2 k3 k5 : Option Value} {u : Value}
theorem call_mw {so e t1 : Addr} {rest : List Value} {Q : Value → Shared → Prop} (hT : ∀ X : String, bm.contains (.type X) = veTail.contains (.type X))
    (hC : h.get? C = some (excClassObj nm q C N bs bm true sn sub ab col dd k0 k1 k2 k3 k5 "ValueError.__new__")) (he : h.get? e = some (excO C t1)) (hu : h.get? so = some (kxs_mw "ValueError.__init__" e)) (hrest : rest.length ≤ sizeLine)
    (hq : ∀ h' t2, (∀ b o, b ≠ e → h.get? b = some o → h'.get? b = some o) → h'.get? e = some (excO C t2) → Q .none ⟨h', g, d, t, os⟩) :
    wpAny (model prog w) A (call (.ref so) rest) Q E ⟨h, g, d, t, os⟩ := by
  refine wpAny_call (codeAny_of_tree ?_)
  show wpAny _ A.in1 (callAny (.ref so) ⟨rest, []⟩) _ _ _
  simp only [callAny]
  refine wpAny_bind (wpAny_load hu ?_)
  simp only [kxs_mw, show (Value.type "method-wrapper" == Value.type "method" || Value.type "method-wrapper" == Value.type "builtin_function_or_method" || Value.type "method-wrapper" == Value.type "method-wrapper") = true by decide, if_true]
  refine W.KFB.if_so (by decide) ?_
  refine wpAny_bind (check_bound_init F.excBase_ValueError.toExcCallFacts hC he rfl ?_)
  refine wpAny_bind (wpAny_pure (wpAny_pure ?_))
  refine ⟨Code.quiet_builtin _ (by decide +kernel), codeAny_builtin F.excBase_ValueError.initEntry ?_⟩
  rw [Around.under_plainId F.excBase_ValueError.init.plain _]
  wp_walk
  refine hq _ h.objs.size (fun b o hb ho => ?_) ?_
  · rw [Heap.get?_update_other _ _ (Ne.symm hb)]
    exact Heap.get?_push_of_some _ ho
  · rw [Heap.get?_update_self _ (Heap.get?_push_of_some _ he) rfl]
    rfl
/-- the run of such an __init__ -/
theorem at_init {fI cc cda : Addr} {D : Addr} {cdD : ClassData} {params : Arguments} {scope : Scope} {dV kV doc pm ct oc ccl cl : Value} {an od cdd cld : Option Addr} {osl ccs csl : Array (Option Value)} {vs : Array Value} {file txt : Str} {tf : Tok} {j : Nat} {p0 p1 p2 p3 p4 p5 p6 p7 p8 p9 : Pos} {ar : Arg}
    (X : K.In h) (hmg : h.Ns mainGlobals mg) (hmb : h.Ns builtinsNs mb) (hsm : mg "super" = none) (hsb : mb "super" = some (.type "super")) (hlim : h.NoLimit) (hroom : A.depth < recursionLimit)
    (hC : K.lookup C = some (excClassObj nm q C N bs bm true sn sub ab col dd k0 k1 k2 k3 k5 "ValueError.__new__")) (hbm : refsVE bm = true)
    (hx : h.get? x = some (excO C t0)) (hnx : ∀ o, K.lookup x ≠ some o)
    (lk : K.lookup fI = some ⟨oc, od, .func (ksFn "__init__" qn params (atBody txt j p0 p1 p2 p3 p4 p5 p6 p7 p8 p9) scope dV kV doc pm an (.ref cda) ct cc), osl⟩) (hcd : codeIn K (.ref cda) qn = true)
    (hbind : BindsTo (⟨h, g, d, t, os⟩ : Shared) (ksFn "__init__" qn params (atBody txt j p0 p1 p2 p3 p4 p5 p6 p7 p8 p9) scope dV kV doc pm an (.ref cda) ct cc) ⟨[.ref x, u], []⟩ [("self", .ref x), ("at", u)])
    (hp : (params.posonlyargs ++ params.args).head? = some ar) (har : ar.arg = "self")
    (hcode : K.lookup cda = some ⟨ccl, cdd, .fields vs, ccs⟩) (hvs : vs[2]? = some (.str file tf)) (hfile : ((prog.main.file : Str) == file) = true)
    (hcell : K.lookup cc = some ⟨cl, cld, .cell (some (.ref D)), csl⟩) (hD : clsIn K D = some cdD) (hDC : D = C)
    (hks : scope.names.lookup ("super" : Str) = some .globalImplicit) (hkc : scope.names.lookup ("__class__" : Str) = some .free) (hka : scope.names.lookup ("self" : Str) = some .local) (hkt : scope.names.lookup ("at" : Str) = some .local)
    (hpos : (p2.endLine == p4.line) = true) (hcl : ∀ x ∈ scope.names, x.2 ≠ .cell) (hco : scope.isCoroutine = false) (hgen : scope.isGenerator = false) (hk : scope.kind = .function)
    (htop : (prog.main.scope.names.lookup ("super" : Str)).isSome = false) (hopq : nsIn K cStatics "thirdparty.any" = some none)
    (hsup : alongIn K "__init__" bm = some (some (.builtin "ValueError.__init__"))) (hB : subIn K (.ref C) (.type "ValueError") = some true) (hmro : mroIn K C (.ref D) = some true)
    (hsa : findIn K (.ref C) "__setattr__" = some (some (.builtin "object.__setattr__"))) (hno : findIn K (.ref C) "at" = some none)
    (hq : ∀ h' tk dx t1, (∀ b o, b ≠ x → h.get? b = some o → h'.get? b = some o) → h.objs.size ≤ dx → dx ≠ x → h'.get? x = some { excO C t1 with dict := some dx } → h'.Ns1 dx (fun y => if y = "at" then some u else none) → R (.ok (.ret .none)) ⟨h', g, d, tk, os⟩) :
    codeAny (model prog w) A (.call (.ref fI) ⟨[.ref x, u], []⟩) R ⟨h, g, d, t, os⟩ := by
  subst hDC
  refine ks_codeAny_call_defAt (fd := ksFn "__init__" qn params (atBody txt j p0 p1 p2 p3 p4 p5 p6 p7 p8 p9) scope dV kV doc pm an (.ref cda) ct cc) (binds := [("self", .ref x), ("at", u)]) hroom (X _ _ lk) rfl hlim (codeRec_of X hcd) rfl hbind hcl (fun y hy => ?_) (fun h₀ hns hk₀ => ?_) hco hgen hk
  · rcases List.mem_cons.mp hy with rfl | hy
    · exact hka
    · obtain rfl := List.mem_singleton.mp hy
      exact hkt
  have X₀ : K.In h₀ := X.keeps hk₀
  have hx₀ := hk₀ _ _ hx
  have I₀ : InstAt h₀ x (excO D t0) D none := ⟨hx₀, rfl, rfl, trivial⟩
  have xlt : x < h.objs.size := Heap.lt_size hx
  show wpAt (model prog w) (A.deeper (ksEnv qn scope h.objs.size fI (.ref cda) cc)) (.func (atBody txt j p0 p1 p2 p3 p4 p5 p6 p7 p8 p9) (ksEnv qn scope h.objs.size fI (.ref cda) cc)) (execs (atBody txt j p0 p1 p2 p3 p4 p5 p6 p7 p8 p9) (ksEnv qn scope h.objs.size fI (.ref cda) cc)) _ _ _
  have hi : interactive (ksEnv qn scope h.objs.size fI (.ref cda) cc) = false := by
    show (scope.kind == .module && _) = false
    rw [hk]
    rfl
  have hm : methodCallPos true (.Call (.Name "super" p0) [] [] p1) (ksEnv qn scope h.objs.size fI (.ref cda) cc) p2 p4 = pure p4 := by
    unfold methodCallPos
    rw [hpos]
    rfl
  have he : eval (.Call (.Attribute (.Call (.Name "super" p0) [] [] p1) "__init__" p2) [.Constant (.str txt) j p3] [] p4) (ksEnv qn scope h.objs.size fI (.ref cda) cc) = (do
      let ov ← attributeBase (.Call (.Name "super" p0) [] [] p1) "__init__" (ksEnv qn scope h.objs.size fI (.ref cda) cc) (eval (.Call (.Name "super" p0) [] [] p1) (ksEnv qn scope h.objs.size fI (.ref cda) cc))
      standAt p2.atName
      let (f, first) ← holding [ov] (getMethod ov "__init__" (do return (← importBound (.Call (.Name "super" p0) [] [] p1) (ksEnv qn scope h.objs.size fI (.ref cda) cc)).getD true))
      callWith p4 f first (backTo p4 (starEach [.Constant (.str txt) j p3] (ksEnv qn scope h.objs.size fI (.ref cda) cc))) []) := by
    show (do
      let ov ← attributeBase (.Call (.Name "super" p0) [] [] p1) "__init__" (ksEnv qn scope h.objs.size fI (.ref cda) cc) (eval (.Call (.Name "super" p0) [] [] p1) (ksEnv qn scope h.objs.size fI (.ref cda) cc))
      standAt p2.atName
      let (f, first) ← holding [ov] (getMethod ov "__init__" (do return (← importBound (.Call (.Name "super" p0) [] [] p1) (ksEnv qn scope h.objs.size fI (.ref cda) cc)).getD true))
      let callPos ← methodCallPos true (.Call (.Name "super" p0) [] [] p1) (ksEnv qn scope h.objs.size fI (.ref cda) cc) p2 p4
      callWith callPos f first (backTo p4 (starEach [.Constant (.str txt) j p3] (ksEnv qn scope h.objs.size fI (.ref cda) cc))) []) = _
    rw [hm]
    rfl
  refine ks_wpAt_execs_cons (ks_wpAt_Expr_any (ks_wpAt_MethodCall ?_ he) hi)
  obtain ⟨oD, hD1, hD2⟩ : ∃ oD, h₀.get? D = some oD ∧ oD.data = .cls cdD := by
    unfold clsIn at hD
    split at hD
    · rename_i c d cd' sl ho
      cases hD
      exact ⟨_, X₀ _ _ ho, rfl⟩
    · cases hD
  have hns' := hns
  refine ks_wpAt_super_base (env := ksEnv qn scope h.objs.size fI (.ref cda) cc) (fd := ksFn "__init__" qn params (atBody txt j p0 p1 p2 p3 p4 p5 p6 p7 p8 p9) scope dV kV doc pm an (.ref cda) ct cc) (ar := ar) hks hkc (by decide) rfl (X₀ _ _ lk) rfl hp rfl (X₀ _ _ hcode) rfl hvs hfile htop ?_
  refine ks_loadName_global hk hks (loadGlobal_builtin (env := ksEnv qn scope h.objs.size fI (.ref cda) cc) (hmg.keeps hk₀) hsm (hmb.keeps hk₀) hsb ⟨rfl, ?_⟩)
  refine wpAny_loadName_free hk hkc rfl ⟨_, X₀ _ _ hcell, rfl⟩ ?_
  rw [har]
  refine wpAny_loadName_local hk hka hns (v := .ref x) (by rfl) ?_
  refine ks_wpAny_isType_cls hD1 hD2 ⟨rfl, ?_⟩
  refine ks_wpAny_call_super hD1 hD2 hx₀ rfl (fun c e => by cases e) (looks_mroIn X₀ hmro) (fun h1 e1 hk1 => ?_)
  -- the method
  have X1 : K.In h1 := X₀.keeps hk1
  have hx1 := hk1 _ _ hx₀
  have I1 : InstAt h1 x (excO D t0) D none := ⟨hx1, rfl, rfl, trivial⟩
  have hcls : clsIn K D = some { name := nm, bases := bs, mro := .ref D :: bm, ns := N, qualname := q, hasDict := true, slotNames := sn, subclasses := sub, abstract := ab, collection := col, hasDel := false } := by unfold clsIn; rw [hC] <;> rfl
  refine kxs_getMethod kxs_ValueError e1 (looks_opaque X1 hopq) (l₀ := .ref D :: bm) (l := bm) ?_ (by simp [List.dropWhile_cons]) X1 hsup (I1.type.andThen (looks_subIn X1 hB)) (ks_ne X1 I1 hcls) (by decide) ?_
  · exact fun A Q E s k q => wpAny_bind ((looks_clsIn X1 hcls) A _ E s k (wpAny_pure q))
  -- its call
  refine kxs_callWith (i := "ValueError.__init__") (x := x) (by rfl) ?_
  refine evalArgs_plain (Calls.spliced_cons (wpAny_Constant_str (pos := p3) (k := j) (Calls.spliced_nil ⟨Heap.get?_push_size _ rfl, ?_⟩)))
  have hk2 : ∀ b o, h1.get? b = some o → (h1.push (kxs_mw "ValueError.__init__" x)).get? b = some o := fun b o e => Heap.get?_push_of_some _ e
  refine call_mw (fun Y => refsVE_contains Y bm hbm) (hk2 _ _ (X1 _ _ hC)) (hk2 _ _ hx1) (Heap.get?_push_size _ rfl) (by show 1 ≤ sizeLine; rw [sizeLine_eq]; omega) (fun h3 t3 hk3 hx3 => ?_)
  -- self.at = at
  have kp3 : ∀ b o, b ≠ x → h₀.get? b = some o → h3.get? b = some o := fun b o hb e => hk3 b o hb (hk2 _ _ (hk1 _ _ e))
  have lx : h.objs.size ≠ x := fun z => Nat.lt_irrefl _ (z ▸ xlt)
  obtain ⟨oL, es, ep, hL, hr⟩ := hns
  have ns3 : h3.Ns h.objs.size fun y => ([("self", Value.ref x), ("at", u)] : List (Str × Value)).reverse.lookup y := ⟨oL, es, ep, kp3 _ _ lx hL, hr⟩
  have X3 : K.In h3 := fun b o e => kp3 b o (fun z => by
    have y := X₀ _ _ e
    rw [z, hx₀] at y
    cases y
    rw [z] at e
    exact hnx _ e) (X₀ _ _ e)
  have hx3' : h3.get? x = some ({ cls := .ref D, dict := none, data := .fields #[.ref t3, .none, .none, .none, .bool false, .none] } : Obj) := hx3
  refine ks_wpAt_execs_cons (ks_wpAt_Assign_Attr ?_)
  refine wpAt_of_wpAny ?_
  refine PySem.ESX0.ldN (env := ksEnv qn scope h.objs.size fI (.ref cda) cc) (m := fun y => ([("self", Value.ref x), ("at", u)] : List (Str × Value)).reverse.lookup y) (x := "at") hk hkt ns3 (by rfl) (v := u) (by rfl) (by decide) ?_
  refine PySem.ESX0.ldN (env := ksEnv qn scope h.objs.size fI (.ref cda) cc) (m := fun y => ([("self", Value.ref x), ("at", u)] : List (Str × Value)).reverse.lookup y) (x := "self") hk hka ns3 (by rfl) (v := .ref x) (by rfl) (by decide) ?_
  refine set_plain X3 (ox := { cls := .ref D, dict := none, data := .fields #[.ref t3, .none, .none, .none, .bool false, .none] }) (od := none) ⟨hx3', rfl, rfl, trivial⟩ hsa ?_
  refine exc_osa X3 hx3' hcls (show refsVE (.ref D :: bm) = true from hbm) rfl hno (fun h4 tk4 dx hk4 dn dne hx4 hn4 => ?_)
  refine wpAt_of_wpAny (wpAny_execs_nil ?_)
  refine hq h4 _ dx t3 (fun b o hb e => hk4 b o hb (kp3 b o hb (hk₀ _ _ e))) ?_ dne hx4 hn4
  have l1 : h.objs.size ≤ h3.objs.size := by
    have : h.objs.size < h3.objs.size := Heap.lt_size (kp3 _ _ lx hL)
    exact Nat.le_of_lt this
  exact Nat.le_trans l1 dn
end
end OWX
end PySem
namespace DL
open PySem PySem.Spec PyProof.Rows L2
/-- an own error class whose __init__ says super().__init__(text); self.at = at -/
structure AtC (prog : Program) (K : PySem.W.Frag) (C : Addr) : Prop where
  ex : ∃ (fI cc cda : Addr) (nm q qn : Str) (N : Addr) (bs bm : List Value) (sn : List Str) (sub : List Value) (ab : Bool) (col : Option Bool) (dd : Option Addr) (k0 k1 k2 k3 k5 : Option Value) (params : Arguments) (scope : Scope) (dV kV doc pm ct oc ccl cl : Value) (an od cdd cld : Option Addr) (osl ccs csl : Array (Option Value))
    (vs : Array Value) (file txt : Str) (tf : Tok) (j : Nat) (p0 p1 p2 p3 p4 p5 p6 p7 p8 p9 : Pos) (ar : Arg),
    (K.lookup C = some (excClassObj nm q C N bs bm true sn sub ab col dd k0 k1 k2 k3 k5 "ValueError.__new__") ∧ PySem.HandSPX.refsVE bm = true) ∧
    K.lookup fI = some ⟨oc, od, .func (PySem.W.ksFn "__init__" qn params (PySem.OWX.atBody txt j p0 p1 p2 p3 p4 p5 p6 p7 p8 p9) scope dV kV doc pm an (.ref cda) ct cc), osl⟩ ∧ PySem.W.codeIn K (.ref cda) qn = true ∧
    (∀ (s : Shared) (x : Addr) (u : Value), BindsTo s (PySem.W.ksFn "__init__" qn params (PySem.OWX.atBody txt j p0 p1 p2 p3 p4 p5 p6 p7 p8 p9) scope dV kV doc pm an (.ref cda) ct cc) ⟨[.ref x, u], []⟩ [("self", .ref x), ("at", u)]) ∧
    ((params.posonlyargs ++ params.args).head? = some ar ∧ ar.arg = "self") ∧
    (K.lookup cda = some ⟨ccl, cdd, .fields vs, ccs⟩ ∧ vs[2]? = some (.str file tf) ∧ ((prog.main.file : Str) == file) = true) ∧
    K.lookup cc = some ⟨cl, cld, .cell (some (.ref C)), csl⟩ ∧
    (scope.names.lookup ("super" : Str) = some .globalImplicit ∧ scope.names.lookup ("__class__" : Str) = some .free ∧ scope.names.lookup ("self" : Str) = some .local ∧ scope.names.lookup ("at" : Str) = some .local ∧ (p2.endLine == p4.line) = true ∧
      (∀ x ∈ scope.names, x.2 ≠ .cell) ∧ scope.isCoroutine = false ∧ scope.isGenerator = false ∧ scope.kind = .function) ∧
    (prog.main.scope.names.lookup ("super" : Str)).isSome = false ∧ PySem.W.nsIn K cStatics "thirdparty.any" = some none ∧
    PySem.W.alongIn K "__init__" bm = some (some (.builtin "ValueError.__init__")) ∧ PySem.W.subIn K (.ref C) (.type "ValueError") = some true ∧ PySem.W.mroIn K C (.ref C) = some true ∧
    PySem.W.findIn K (.ref C) "__init__" = some (some (.ref fI)) ∧ PySem.W.typeIn K (.ref fI) = some (.type "function")
  sa : PySem.W.findIn K (.ref C) "__setattr__" = some (some (.builtin "object.__setattr__"))
  exC : PySem.W.subIn K (.ref C) (.type "BaseException") = some true
  tyC : PySem.W.typeIn K (.ref C) = some (.type "type")
  kC : PySem.W.keepIn K (.ref C) = true
  no : PySem.W.findIn K (.ref C) "at" = some none
/-- C(e): the error of the class C that keeps e -/
def tMkA (C : Addr) (te : TE) : L2.St → Hp → XK → Prop := fun σ H Q => te σ H fun v H1 => ∀ d, H1 d = none → Q (.ref C) (some d) (upd H1 d (.xd [("at", v)]))
theorem pmk_at {X : Cx} {x : Str} {C : Addr} {k : Nat} {e : Expr} {te : TE} {p pos : Pos} (T : AtC X.prog X.K C) (hms : X.mg "super" = none) (hr : Room (k + 1) X.A) (hg : Gl X x) (hm : X.mg x = some (.ref C)) (he0 : PE X e te)
    (hdb : (x == ("__debug__" : Str)) = false := by decide) (he : starEach [e] X.env = (false, eval e X.env) :: starEach [] X.env := by rfl) :
    PMk X (.Call (.Name x p) [e] [] pos) (tMkA C te) := by
  intro pins s σ H Q I h
  obtain ⟨fI, cc, cda, nm, q, qn, N, bs, bm, sn, sub, ab, col, dd, k0, k1, k2, k3, k5, params, scope, dV, kV, doc, pm, ct, oc, ccl, cl, an, od, cdd, cld, osl, ccs, csl, vs, file, txt, tf, j, p0, p1, p2, p3, p4, p5, p6, p7, p8, p9, ar,
    ⟨hC, hbm⟩, lk, hcd, hbind, ⟨hp, har⟩, ⟨hcode, hvs, hfile⟩, hcell, ⟨s1, s2, s3, s4, s5, s6, s7, s8, s9⟩, htop, hopq, hsup, hB, hmro, iC, tI⟩ := T.ex
  have hcls : PySem.W.clsIn X.K C = some { name := nm, bases := bs, mro := .ref C :: bm, ns := N, qualname := q, hasDict := true, slotNames := sn, subclasses := sub, abstract := ab, collection := col, hasDel := false } := by unfold PySem.W.clsIn; rw [hC] <;> rfl
  refine wpAny_Call_Name_kw (ld_glob I hg hm ?_ hdb)
  refine PySem.W.callWith_K (h₀ := X.base) I.ok.mod.kin T.kC ?_ he (by rfl)
  rw [he]
  show wpAny _ _ (spliced ((false, eval e X.env) :: backTo pos (starEach [] X.env))) _ _ s
  refine Calls.spliced_cons (thn (he0.run pins s σ H _ I h) fun u sB ⟨v, H1, I1, r1, q1⟩ => ?_)
  refine Calls.spliced_nil ⟨I1.kIn, ?_⟩
  show wpAny _ _ (call (.ref C) [u]) _ _ _
  obtain ⟨hp1, g, dr, tk, os⟩ := sB
  have kk : ∀ b o, hp1.get? b = some o → ((hp1.push (PySem.W.kdv_tup [u])).push (PySem.HandSPX.excO C hp1.objs.size)).get? b = some o := fun b o e => Heap.get?_push_of_some _ (Heap.get?_push_of_some _ e)
  have hget : ((hp1.push (PySem.W.kdv_tup [u])).push (PySem.HandSPX.excO C hp1.objs.size)).get? (hp1.objs.size + 1) = some (PySem.HandSPX.excO C hp1.objs.size) := by heap_get
  obtain ⟨mb, hmb, hbb⟩ := I1.ok.mod.blt
  refine wpAny_call (PySem.HandSPX.call_own F.excBase_ValueError (fun Y => PySem.HandSPX.refsVE_contains Y bm hbm) (I1.kIn _ _ hC) (PySem.W.looks_findIn I1.kIn iC) (fun self => PySem.W.bind_fn I1.kIn self tI) (by show 1 ≤ sizeLine; rw [sizeLine_eq]; omega)
    (PySem.OWX.at_init (mg := X.mg) (mb := mb) (I1.kIn.keeps kk) ((I1.mod.glob.keeps I1.bk).keeps kk) ((hmb.keeps I1.bk).keeps kk) hms ((hbb _ (by decide)).trans (by decide +kernel)) (I1.nolimit.keeps kk) (hr.make C [u] []).depth hC hbm hget (fun o z => ?_) lk hcd (hbind _ _ _) hp har hcode hvs hfile hcell hcls rfl
      s1 s2 s3 s4 s5 s6 s7 s8 s9 htop hopq hsup hB hmro T.sa T.no (fun h' tk' dx t1 k' l' ne hx hn => ?_)))
  · exact Nat.lt_irrefl _ (Nat.lt_trans (Nat.lt_succ_self _) (Heap.lt_size (I1.kIn _ _ z)))
  have k2 : ∀ b o, hp1.get? b = some o → h'.get? b = some o := fun b o e => k' b o (fun z => by
    rw [z] at e
    exact Nat.lt_irrefl _ (Nat.lt_trans (Nat.lt_succ_self _) (Heap.lt_size e))) (kk _ _ e)
  obtain ⟨G, g1', g2'⟩ := restrict h' fun b => decide (b ≠ hp1.objs.size + 1)
  have gk : ∀ b, b ≠ hp1.objs.size + 1 → G.get? b = h'.get? b := fun b hb => g1' b (decide_eq_true hb)
  have ge : G.get? (hp1.objs.size + 1) = none := g2' _ (by simp)
  have ld : hp1.objs.size ≤ dx := Nat.le_trans (by rw [Heap.size_push, Heap.size_push]; omega) l'
  have rel : ∀ f, RelO (([("at", v)] : List (Str × V)).lookup f) (if f = "at" then some u else none) := relO_put (fs := []) (mA := fun _ => none) r1 fun g => True.intro
  have hok : ObjOk X.prog X.w (upd H1 dx (.xd [("at", v)])) G dx (.xd [("at", v)]) := ⟨_, hn.at fun o y => (gk dx ne).trans y, rel⟩
  have J : Inv X pins σ (upd H1 dx (.xd [("at", v)])) ⟨G, g, dr, tk', os⟩ := I1.laid (t' := tk') (fun b o z => (gk b (fun y => by
    rw [y] at z
    exact Nat.lt_irrefl _ (Nat.lt_trans (Nat.lt_succ_self _) (Heap.lt_size z)))).trans (k2 b o z)) ld hok
  have hn1 : H1 (hp1.objs.size + 1) = none := I1.hok.fresh (Nat.le_succ _)
  refine ⟨rfl, hp1.objs.size + 1, _, _, ⟨G, g, dr, tk', os⟩, _, .ref C, some dx, rfl, J, fun b o z => ?_, ge, hx, ⟨rfl, rfl⟩, rfl, rfl, ?_, rfl, I1.bare, raises_own T.exC T.tyC, q1 dx (I1.hok.fresh ld)⟩
  · by_cases hb : b = hp1.objs.size + 1
    · rw [hb, ge] at z
      cases z
    · exact (gk b hb).symm.trans z
  · rw [upd_ne (Ne.symm ne)]
    exact hn1
end DL
namespace DL
open PySem PySem.Spec PyProof.Rows L2
/-! ### raise C(e) -/
section
variable {X : Cx} {A : Am} {B : Bs} {E : XS} {Hb H : Hp} {σ : List (Option V)} {c : Cfg} {fe : EF}
def sRaise (cn : Nat) (fe : EF) : SF := fun c => match fe c with
  | .ok .bo _ _ => .bad
  | .ok _ d c1 => .exc (cn, some d) c1
  | .exc x c1 => .exc x c1
  | .bad => .bad
theorem raise_fin {E : XK} {σ1 : L2.St} {k : Kd} {d : D} {c1 : Cfg} {v : V} {cn : Nat} {Hb1 H1 : Hp} {dx : Addr} (s1 : Sr A B Hb1 H1 σ1 c1) (r : RepK A B Hb1 H1 σ1 c1 k d v) (hk : k ≠ .bo) (hd : H1 dx = none) (e0 : Same Hb Hb1) (q : ExcC A B E Hb σ1 (cn, some d) c1) :
    E (.ref (A.cl cn)) (some dx) (upd H1 dx (.xd [("at", v)])) := by
  obtain ⟨Hb2, s2, e2, r2⟩ := r.keep s1 hk
  have s3 : Sr A B Hb2 (upd H1 dx (.xd [("at", v)])) σ1 c1 := s2.new hd
  have hb : Hb2 dx = none := s2.fin.hr.freshB hd
  have np : ¬ B.pr dx := fun z => by
    obtain ⟨⟨o, h1, _⟩, _⟩ := s2.pr dx z
    rw [hd] at h1
    cases h1
  have s4 := s3.frz upd_same hb (s2.fin.hr.fresh hd) (s2.fin.h0n hd) np (fun ps z => by cases z) fun i d' hi z => by
    obtain ⟨b, o, h1, h2, _⟩ := s2.ow i d' hi
    rw [h1] at z
    cases z
    rw [hd] at h2
    cases h2
  have e3 : Same Hb2 (upd Hb2 dx (.xd [("at", v)])) := same_upd hb
  exact q _ _ _ _ ((e0.trans e2).trans e3) s4 ⟨rfl, dx, v, rfl, upd_same, Rep.mono e3 _ _ r2⟩
theorem ds_raise {x : Str} {cn k : Nat} {e : Expr} {p pos pos' : Pos} (hc : X.calm = true) (tk : Takes X (fun cls d σ H => E σ cls d H)) (T : AtC X.prog X.K (A.cl cn)) (hms : X.mg "super" = none) (hr : Room (k + 1) X.A) (hg : Gl X x) (hm : X.mg x = some (.ref (A.cl cn))) (he0 : DE X A B E e fe)
    (hdb : (x == ("__debug__" : Str)) = false := by decide) (he : starEach [e] X.env = (false, eval e X.env) :: starEach [] X.env := by rfl) :
    DS X A B E (.Raise (some (.Call (.Name x p) [e] [] pos)) none pos') (sRaise cn fe) :=
  PS.imp (ps_raise hc tk (pmk_at T hms hr hg hm he0 hdb he)) fun D σ H ⟨Hb, c, s, q⟩ => by
    refine ⟨Hb, c, s, ?_⟩
    unfold sRaise at q
    cases ef : fe c with
    | bad => rw [ef] at q; exact False.elim q
    | exc x W => rw [ef] at q; exact (q σ).toE
    | ok k d c1 =>
      rw [ef] at q
      cases k with
      | bo => exact False.elim q
      | st => exact fun v Hb1 H1 s1 t1 r dx hd => raise_fin s1 r (by intro z; cases z) hd t1.b (q σ)
      | fr => exact fun v Hb1 H1 s1 t1 r dx hd => raise_fin s1 r (by intro z; cases z) hd t1.b (q σ)
end
end DL
namespace DL
open PySem PySem.Spec PyProof.Rows L2
/-! ### the state with a caught error -/
def Am.at (A : Am) (p : ErA) : Am := { A with er := some p }
mutual
def noErr : D → Bool
  | .non => true
  | .bl _ => true
  | .int _ => true
  | .str _ => true
  | .tup ds => noErrL ds
  | .lst ds => noErrL ds
  | .obj _ _ ds => noErrL ds
  | .deal => true
  | .err _ _ => false
  | .dK _ ds => noErrL ds
  | .dT _ ds => noErrL ds
def noErrL : List D → Bool
  | [] => true
  | d :: ds => noErr d && noErrL ds
end
@[simp] theorem noErr_non : noErr .non = true := by unfold noErr; rfl
@[simp] theorem noErr_bl {b} : noErr (.bl b) = true := by unfold noErr; rfl
@[simp] theorem noErr_int {i} : noErr (.int i) = true := by unfold noErr; rfl
@[simp] theorem noErr_str {x} : noErr (.str x) = true := by unfold noErr; rfl
@[simp] theorem noErr_deal : noErr .deal = true := by unfold noErr; rfl
@[simp] theorem noErr_tup {ds} : noErr (.tup ds) = noErrL ds := by conv => lhs; unfold noErr
@[simp] theorem noErr_lst {ds} : noErr (.lst ds) = noErrL ds := by conv => lhs; unfold noErr
@[simp] theorem noErrL_nil : noErrL [] = true := by unfold noErrL; rfl
@[simp] theorem noErrL_cons {d ds} : noErrL (d :: ds) = (noErr d && noErrL ds) := by conv => lhs; unfold noErrL
theorem noErrL_map {α : Type} {e : α → D} : ∀ {xs : List α}, (∀ x ∈ xs, noErr (e x) = true) → noErrL (xs.map e) = true
  | [], _ => by simp
  | x :: xs, h => by
    rw [List.map_cons, noErrL_cons, h x List.mem_cons_self, noErrL_map fun y hy => h y (List.mem_cons_of_mem _ hy)]
    rfl
mutual
theorem Rep.toAt {A : Am} {p : ErA} {H : Hp} (h0 : A.er = none) : ∀ (d : D) (v : V), Rep A H d v → Rep (A.at p) H d v
  | .non, v, h => by unfold Rep at h ⊢; exact h
  | .bl b, v, h => by unfold Rep at h ⊢; exact h
  | .int i, v, h => by unfold Rep at h ⊢; exact h
  | .str x, v, h => by unfold Rep at h ⊢; exact h
  | .tup ds, v, h => by
    unfold Rep at h ⊢
    obtain ⟨a, xs, h1, h2, h3⟩ := h
    exact ⟨a, xs, h1, h2, RepL.toAt h0 ds xs h3⟩
  | .lst ds, v, h => by
    unfold Rep at h ⊢
    obtain ⟨a, xs, h1, h2, h3⟩ := h
    exact ⟨a, xs, h1, h2, RepL.toAt h0 ds xs h3⟩
  | .obj C ns ds, v, h => by
    unfold Rep at h ⊢
    obtain ⟨a, dx, fs, h1, h2, h3, h4⟩ := h
    exact ⟨a, dx, fs, h1, h2, h3, RepL.toAt h0 ds _ h4⟩
  | .deal, v, h => by unfold Rep at h ⊢; exact h
  | .dK ks ds, v, h => by
    unfold Rep at h ⊢
    obtain ⟨a, fs, h1, h2, h3, h4⟩ := h
    exact ⟨a, fs, h1, h2, h3, RepL.toAt h0 ds _ h4⟩
  | .dT ks ds, v, h => by
    unfold Rep at h ⊢
    obtain ⟨a, fs, h1, h2, h3, h4⟩ := h
    exact ⟨a, fs, h1, h2, h3, RepL.toAt h0 ds _ h4⟩
  | .err cn ds, v, h => by
    unfold Rep at h
    obtain ⟨q, fs, e, _⟩ := h
    rw [h0] at e
    cases e
theorem RepL.toAt {A : Am} {p : ErA} {H : Hp} (h0 : A.er = none) : ∀ (ds : List D) (xs : List V), RepL A H ds xs → RepL (A.at p) H ds xs
  | [], xs, h => by unfold RepL at h ⊢; exact h
  | d :: ds, xs, h => by
    unfold RepL at h ⊢
    obtain ⟨x, r, h1, h2, h3⟩ := h
    exact ⟨x, r, h1, Rep.toAt h0 d x h2, RepL.toAt h0 ds r h3⟩
end
mutual
theorem Rep.ofAt {A : Am} {p : ErA} {H : Hp} : ∀ (d : D) (v : V), noErr d = true → Rep (A.at p) H d v → Rep A H d v
  | .non, v, n, h => by unfold Rep at h ⊢; exact h
  | .bl b, v, n, h => by unfold Rep at h ⊢; exact h
  | .int i, v, n, h => by unfold Rep at h ⊢; exact h
  | .str x, v, n, h => by unfold Rep at h ⊢; exact h
  | .tup ds, v, n, h => by
    unfold Rep at h ⊢
    unfold noErr at n
    obtain ⟨a, xs, h1, h2, h3⟩ := h
    exact ⟨a, xs, h1, h2, RepL.ofAt ds xs n h3⟩
  | .lst ds, v, n, h => by
    unfold Rep at h ⊢
    unfold noErr at n
    obtain ⟨a, xs, h1, h2, h3⟩ := h
    exact ⟨a, xs, h1, h2, RepL.ofAt ds xs n h3⟩
  | .obj C ns ds, v, n, h => by
    unfold Rep at h ⊢
    unfold noErr at n
    obtain ⟨a, dx, fs, h1, h2, h3, h4⟩ := h
    exact ⟨a, dx, fs, h1, h2, h3, RepL.ofAt ds _ n h4⟩
  | .deal, v, n, h => by unfold Rep at h ⊢; exact h
  | .err cn ds, v, n, h => by unfold noErr at n; cases n
  | .dK ks ds, v, n, h => by
    unfold Rep at h ⊢
    unfold noErr at n
    obtain ⟨a, fs, h1, h2, h3, h4⟩ := h
    exact ⟨a, fs, h1, h2, h3, RepL.ofAt ds _ n h4⟩
  | .dT ks ds, v, n, h => by
    unfold Rep at h ⊢
    unfold noErr at n
    obtain ⟨a, fs, h1, h2, h3, h4⟩ := h
    exact ⟨a, fs, h1, h2, h3, RepL.ofAt ds _ n h4⟩
theorem RepL.ofAt {A : Am} {p : ErA} {H : Hp} : ∀ (ds : List D) (xs : List V), noErrL ds = true → RepL (A.at p) H ds xs → RepL A H ds xs
  | [], xs, n, h => by unfold RepL at h ⊢; exact h
  | d :: ds, xs, n, h => by
    unfold RepL at h ⊢
    unfold noErrL at n
    obtain ⟨n1, n2⟩ := Bool.and_eq_true_iff.mp n
    obtain ⟨x, r, h1, h2, h3⟩ := h
    exact ⟨x, r, h1, Rep.ofAt d x n1 h2, RepL.ofAt ds r n2 h3⟩
end
def noErrR (r : List (Option (Bool × D))) : Bool := r.all fun o => match o with
  | some u => noErr u.2
  | none => true
theorem noErrR_get {r : List (Option (Bool × D))} {i : Nat} {u : Bool × D} (h : noErrR r = true) (e : r[i]? = some (some u)) : noErr u.2 = true :=
  List.all_eq_true.mp h (some u) (List.mem_of_getElem? e)
@[simp] theorem noErrR_nil : noErrR [] = true := rfl
@[simp] theorem noErrR_none {r} : noErrR (none :: r) = noErrR r := by unfold noErrR; simp
@[simp] theorem noErrR_some {u r} : noErrR (some u :: r) = (noErr u.2 && noErrR r) := by unfold noErrR; simp
section
variable {X : Cx} {A : Am} {p : ErA} {B : Bs} {E : XS} {Hb H : Hp} {σ : List (Option V)} {c : Cfg} {W : Wd} {d : D} {v : V} {o : HO} {fe fb g : SF} {i : Nat}
theorem Fin.toAt (f : Fin A B Hb H W) : Fin (A.at p) B Hb H W := ⟨⟨f.hr.same, f.hr.notb, f.hr.w, f.hr.tabs⟩, f.b0, ⟨f.kp.it, f.kp.eq⟩, f.nb⟩
theorem Fin.ofAt (f : Fin (A.at p) B Hb H W) : Fin A B Hb H W := ⟨⟨f.hr.same, f.hr.notb, f.hr.w, f.hr.tabs⟩, f.b0, ⟨f.kp.it, f.kp.eq⟩, f.nb⟩
theorem ObjD.toAt (h0 : A.er = none) (h : ObjD A Hb d o) : ObjD (A.at p) Hb d o := by
  cases d with
  | lst ds =>
    obtain ⟨xs, h1, h2⟩ := h
    exact ⟨xs, h1, RepL.toAt h0 _ _ h2⟩
  | dK ks ds =>
    obtain ⟨xs, h1, h2, h3⟩ := h
    exact ⟨xs, h1, h2, RepL.toAt h0 _ _ h3⟩
  | dT ks ds =>
    obtain ⟨xs, h1, h2, h3⟩ := h
    exact ⟨xs, h1, h2, RepL.toAt h0 _ _ h3⟩
  | obj C ns ds =>
    obtain ⟨dx, fs, h1, h2, h3⟩ := h
    exact ⟨dx, fs, h1, h2, RepL.toAt h0 _ _ h3⟩
  | _ => exact h.elim
theorem ObjD.ofAt (n : noErr d = true) (h : ObjD (A.at p) Hb d o) : ObjD A Hb d o := by
  cases d with
  | lst ds =>
    obtain ⟨xs, h1, h2⟩ := h
    exact ⟨xs, h1, RepL.ofAt _ _ (by simpa using n) h2⟩
  | dK ks ds =>
    obtain ⟨xs, h1, h2, h3⟩ := h
    exact ⟨xs, h1, h2, RepL.ofAt _ _ (by unfold noErr at n; exact n) h3⟩
  | dT ks ds =>
    obtain ⟨xs, h1, h2, h3⟩ := h
    exact ⟨xs, h1, h2, RepL.ofAt _ _ (by unfold noErr at n; exact n) h3⟩
  | obj C ns ds =>
    obtain ⟨dx, fs, h1, h2, h3⟩ := h
    exact ⟨dx, fs, h1, h2, RepL.ofAt _ _ (by unfold noErr at n; exact n) h3⟩
  | _ => exact h.elim
theorem Sr.toAt (h0 : A.er = none) (s : Sr A B Hb H σ c) : Sr (A.at p) B Hb H σ c :=
  ⟨s.fin.toAt, s.len, fun i d h => by
    obtain ⟨v, h1, h2⟩ := s.sh i d h
    exact ⟨v, h1, Rep.toAt h0 _ _ h2⟩, fun i d h => by
    obtain ⟨a, u, h1, h2, h3, h4, h5, h6⟩ := s.ow i d h
    exact ⟨a, u, h1, h2, h3.toAt h0, h4, h5, h6⟩, s.sep, s.pr⟩
theorem Sr.ofAt (n : noErrR c.r = true) (s : Sr (A.at p) B Hb H σ c) : Sr A B Hb H σ c :=
  ⟨s.fin.ofAt, s.len, fun i d h => by
    obtain ⟨v, h1, h2⟩ := s.sh i d h
    exact ⟨v, h1, Rep.ofAt _ _ (noErrR_get n h) h2⟩, fun i d h => by
    obtain ⟨a, u, h1, h2, h3, h4, h5, h6⟩ := s.ow i d h
    exact ⟨a, u, h1, h2, h3.ofAt (noErrR_get n h), h4, h5, h6⟩, s.sep, s.pr⟩
theorem RepR.ofAt {fr : Bool} (n : noErr d = true) (h : RepR (A.at p) B Hb H fr d v) : RepR A B Hb H fr d v := by
  cases fr with
  | false => exact Rep.ofAt d v n h
  | true =>
    obtain ⟨a, u, h1, h2, h3, h4⟩ := h
    exact ⟨a, u, h1, h2, h3.ofAt n, h4⟩
theorem Sr.gone (i : Nat) (s : Sr A B Hb H σ c) : Sr A B Hb H (σ.set i none) ⟨c.r.set i none, c.W⟩ := s.wiped [i]
/-- out of the suite again: its error is forgotten -/
def cleanS (i : Nat) : SR → SR
  | .nx c => if noErrR (c.r.set i none) then .nx ⟨c.r.set i none, c.W⟩ else .bad
  | .brk c => if noErrR (c.r.set i none) then .brk ⟨c.r.set i none, c.W⟩ else .bad
  | .cnt c => if noErrR (c.r.set i none) then .cnt ⟨c.r.set i none, c.W⟩ else .bad
  | .ret fr d W => if noErr d then .ret fr d W else .bad
  | .exc _ _ => .bad
  | .bad => .bad
def errD (x : XD) : D := .err x.1 x.2.toList
def sTry (i : Nat) (m : Nat → Option Bool) (f g : SF) : SF := fun c => match f c with
  | .exc x c1 => (match m x.1 with
    | some true => if i < c1.r.length then cleanS i (g ⟨c1.r.set i (some (false, errD x)), c1.W⟩) else .bad
    | some false => .exc x c1
    | none => .bad)
  | r => r
/-- the ends of a suite -/
def DeX (i : Nat) (D : Ends) : Ends := { nx := fun σ' H' => D.nx (σ'.set i none) H', rt := D.rt, bk := fun σ' H' => D.bk (σ'.set i none) H', ct := fun σ' H' => D.ct (σ'.set i none) H' }
theorem clean_post {D : Ends} {r : SR} (q : SPost A B E Hb D (cleanS i r)) : SPost (A.at p) B E0S Hb (DeX i D) r := by
  cases r with
  | nx c =>
    change SPost A B E Hb D (if noErrR (c.r.set i none) then .nx ⟨c.r.set i none, c.W⟩ else .bad) at q
    split at q
    · rename_i n
      exact fun σ' Hb' H' e s => q _ Hb' H' e (Sr.ofAt n (s.gone i))
    · exact q.elim
  | brk c =>
    change SPost A B E Hb D (if noErrR (c.r.set i none) then .brk ⟨c.r.set i none, c.W⟩ else .bad) at q
    split at q
    · rename_i n
      exact fun σ' Hb' H' e s => q _ Hb' H' e (Sr.ofAt n (s.gone i))
    · exact q.elim
  | cnt c =>
    change SPost A B E Hb D (if noErrR (c.r.set i none) then .cnt ⟨c.r.set i none, c.W⟩ else .bad) at q
    split at q
    · rename_i n
      exact fun σ' Hb' H' e s => q _ Hb' H' e (Sr.ofAt n (s.gone i))
    · exact q.elim
  | ret fr d W =>
    change SPost A B E Hb D (if noErr d then .ret fr d W else .bad) at q
    split at q
    · rename_i n
      exact fun v Hb' H' f r => q v Hb' H' f.ofAt (r.ofAt n)
    · exact q.elim
  | exc x c => exact q.elim
  | bad => exact q.elim
theorem err_rep {x : XD} {cls : Value} {dd : Option Addr} {a : Addr} (h0 : A.er = none) (ex : ExcAt A Hb x cls dd) : Rep (A.at ⟨a, cls, dd⟩) Hb (errD x) (.ref a) := by
  obtain ⟨h1, h2⟩ := ex
  obtain ⟨cn, o⟩ := x
  unfold errD Rep
  cases o with
  | none => exact ⟨⟨a, cls, dd⟩, [], rfl, rfl, h1, RepL.nil, .inl ⟨rfl, h2⟩⟩
  | some d =>
    obtain ⟨da, v, h3, h4, h5⟩ := h2
    exact ⟨⟨a, cls, dd⟩, [("at", v)], rfl, rfl, h1, RepL.cons (Rep.toAt h0 _ _ h5) RepL.nil, .inr ⟨da, h3, h4, rfl⟩⟩
/-- try: body / except x as n: suite -/
theorem ds_try {x n : Str} {c : Value} {m : Nat → Option Bool} {body suite : List Stmt} {b₀ : Stmt} {np pos pos' : Pos} (h0 : A.er = none) (hs : X.stack = X.env :: X.outer) (hf : X.env.frame = some X.env.locals) (hN : X.N.Nodup) (hi : X.N[i]? = some n) (hln : X.env.kindOf n = some .local) (hc : Names X x c)
    (tk : Takes X (fun cls d σ H => E σ cls d H)) (hm : ∀ cn b, m cn = some b → PySem.W.exmOne X.K (.ref (A.cl cn)) c = some b)
    (hb : ∀ (W : WX) (pn : List (Addr × Obj)) (xe : Value → Shared → Prop), Takes (X.tr pn xe) W → PassesOwn (model X.prog X.w) X.A X.env xe → DSs (X.tr pn xe) A B (fun σ cls d H => W cls d σ H) body fb)
    (hsu : ∀ (p : ErA) (oe : Obj) (pn : List (Addr × Obj)), Zc p.cls p.dd oe → (∃ vs, oe.data = .fields vs) → DSs (X.suite p.a ((p.a, oe) :: pn)) (A.at p) B E0S (b₀ :: suite) g) :
    DS X A B E (.Try body [.ExceptHandler (some (.Name x np)) (some n) (b₀ :: suite) pos'] [] [] pos) (sTry i m fb g) := by
  refine PS.imp (ps_try_as (tb := fun W => rdS A B (fun σ cls d H => W cls d σ H) fb) (ts := fun a cls d => rdS (A.at ⟨a, cls, d⟩) B E0S g) (Wout := fun cls d σ H => E σ cls d H) hs hf hN hi hln hc tk hb (fun a oe cls d pn hz hd => hsu ⟨a, cls, d⟩ oe pn hz hd)) fun D σ H ⟨Hb, c0, s, q⟩ => ⟨Hb, c0, s, ?_⟩
  unfold sTry at q
  cases e : fb c0 with
  | nx c => rw [e] at q; exact q
  | ret fr d W => rw [e] at q; exact q
  | brk c => rw [e] at q; exact q
  | cnt c => rw [e] at q; exact q
  | bad => rw [e] at q; exact q
  | exc x c1 =>
    rw [e] at q
    dsimp only at q
    intro σ' cls dd Hb' H' e1 s1 ex
    show wAs X.K c i _ _ D cls dd σ' H'
    cases em : m x.1 with
    | none => rw [em] at q; exact q.elim
    | some b =>
      rw [em] at q
      refine ⟨b, by rw [ex.1]; exact hm _ _ em, fun hb a na => ?_, fun hb => ?_⟩
      · subst hb
        dsimp only at q
        split at q
        · rename_i hi'
          have s2 : Sr (A.at ⟨a, cls, dd⟩) B Hb' H' σ' c1 := s1.toAt h0
          exact ⟨Hb', _, s2.setS hi' (err_rep h0 ex), (clean_post q).mono e1⟩
        · exact q.elim
      · subst hb
        exact q σ' cls dd Hb' H' e1 s1 ex
end
end DL
namespace DL
open PySem PySem.Spec PyProof.Rows L2
/-! ### what is asked of a caught error -/
/-- an own error class whose instances keep at -/
structure ErC (K : PySem.W.Frag) (C : Addr) : Prop where
  x : L2.ExcC K C
  no : PySem.W.findIn K (.ref C) "at" = some none
def evErrAt (ok : Nat → Bool) (fe : EF) : EF := fun c => match fe c with
  | .ok _ (.err cn [d]) c1 => if ok cn then .ok .st d c1 else .bad
  | _ => .bad
def gErrIs (m : Nat → Option Bool) : D → Option (Kd × D)
  | .err cn _ => (m cn).map fun b => (.st, .bl b)
  | _ => none
section
variable {X : Cx} {A : Am} {p : ErA} {oe : Obj} {pn : List (Addr × Obj)} {B : Bs} {E : XS} {Hb H : Hp} {σ : List (Option V)} {c : Cfg} {W : Wd} {d : D} {v : V} {fe : EF}
theorem err_inv {cn : Nat} {ds : List D} (h : RepO (A.at p) Hb H (.err cn ds) v) : ∃ fs : List (Str × V), v = .ref p.a ∧ p.cls = .ref (A.cl cn) ∧ RepL (A.at p) Hb ds (fs.map (·.2)) ∧ ((ds = [] ∧ p.dd = none) ∨ ∃ da, p.dd = some da ∧ Hb da = some (.xd fs) ∧ fs.map (·.1) = [("at" : Str)]) := by
  rcases h with h | ⟨a, o, _, _, z, _⟩
  · unfold Rep at h
    obtain ⟨q, fs, e, h1, h2, h3, h4⟩ := h
    cases e
    exact ⟨fs, h1, h2, h3, h4⟩
  · exact z.elim
theorem de_errAt {e : Expr} {pos : Pos} {ok : Nat → Bool} (hT : ∀ cn, ok cn = true → ErC X.K (A.cl cn)) (hz : Zc p.cls p.dd oe) (hf : ∃ vs, oe.data = .fields vs) (he : DE (X.suite p.a ((p.a, oe) :: pn)) (A.at p) B E e fe) (hb : attributeBase e "at" X.env (eval e X.env) = eval e X.env := by rfl) :
    DE (X.suite p.a ((p.a, oe) :: pn)) (A.at p) B E (.Attribute e "at" pos) (evErrAt ok fe) := by
  refine ⟨fun pins s σ H Q I ⟨Hb, c, sr, q⟩ => ?_⟩
  unfold evErrAt at q
  cases ef : fe c with
  | exc x c1 => rw [ef] at q; exact q.elim
  | bad => rw [ef] at q; exact q.elim
  | ok k d c1 =>
    rw [ef] at q
    cases d with
    | err cn ds =>
      match ds, q with
      | [], q => exact q.elim
      | _ :: _ :: _, q => exact q.elim
      | [d], q =>
        dsimp only at q
        split at q
        · rename_i hok
          have T := hT cn hok
          refine (pe_xf (C := A.cl cn) ⟨T.x.hg, T.x.hk, T.x.hs, T.x.hd⟩ T.no hz hf he hb).run pins s σ H Q I ?_
          refine ⟨Hb, c, sr, ?_⟩
          rw [ef]
          intro v Hb1 H1 s1 t1 r1
          obtain ⟨fs, e1, e2, e3, e4⟩ := err_inv r1.o
          rcases e4 with ⟨z, _⟩ | ⟨da, e5, e6, e7⟩
          · cases z
          · match fs, e3, e7 with
            | [(n, w)], e3, e7 =>
              cases e7
              obtain ⟨w', r', e8, e9, e10⟩ := repL_cons.mp e3
              cases e8
              exact ⟨e1, e2, da, _, w, e5, s1.same _ _ e6, rfl, q w Hb1 H1 s1 t1 e9⟩
        · exact q.elim
    | _ => exact q.elim
def rErrIs (K : PySem.W.Frag) (p : ErA) : List V → Hp → VK → Prop := fun xs H Q => ∃ (cv : V) (CV : Value) (C : Addr) (b : Bool), xs = [.ref p.a, cv] ∧ (∀ u, RelV cv u → u = CV) ∧ p.cls = .ref C ∧ L2.ExcC K C ∧ PySem.W.kitOne K (.ref C) CV = some b ∧
  (p.dd = none ∨ ∃ da fs, p.dd = some da ∧ H da = some (.xd fs)) ∧ Q (.bl b) H
theorem call_errIs (hz : Zc p.cls p.dd oe) (hf : ∃ vs, oe.data = .fields vs) : CallR (X.suite p.a ((p.a, oe) :: pn)) (.builtin "isinstance") (rErrIs X.K p) := by
  intro pins s σ H xs us Q I r h
  obtain ⟨cv, CV, C, b, rfl, hcv, ec, T, e, hd, q⟩ := h
  cases r with
  | cons rx rr =>
    cases rr with
    | cons rt rr =>
      cases rr
      cases rx
      obtain rfl := hcv _ rt
      obtain ⟨hget, _⟩ := I.pin (p.a, oe) (List.mem_append.mpr (.inl List.mem_cons_self))
      obtain ⟨vs, hv⟩ := hf
      obtain ⟨cdD, hcD, _⟩ := PySem.W.any_some T.hd
      have hcl : (PySem.W.clsIn X.K C).isSome = true := by rw [hcD]; rfl
      have fin : ∀ od, PySem.W.InstAt s.heap p.a oe C od → wpAny (model X.prog X.w) (X.A.mark (some (.ref p.a))) (call (.builtin "isinstance") [.ref p.a, _]) (EP (X.suite p.a ((p.a, oe) :: pn)) pins σ Q) (fun _ _ => False) s := fun od J =>
        PySem.W.kia_one (PySem.W.kitx_exc hcl T.hg T.hk T.hs T.ha T.hn T.ht T.hm) I.kIn J e (fun z => nomatch z) fun tk => ⟨.bl b, H, I.kept (t' := tk) fun _ _ z => z, rfl, q⟩
      have hc1 : oe.cls = .ref C := hz.1.trans ec
      have hnc : PySem.W.notCls oe = true := by unfold PySem.W.notCls; rw [hv] <;> rfl
      rcases hd with hd | ⟨da, fs, hd, ha⟩
      · exact fin none ⟨hget, hc1, hnc, by rw [hz.2, hd]; trivial⟩
      · have hx : ObjOk X.prog X.w H s.heap da (.xd fs) := I.hok da _ ha
        obtain ⟨mA, hns, _⟩ := hx
        obtain ⟨od, ho, _⟩ := lookIn_ns hns
        exact fin (some od) ⟨hget, hc1, hnc, by rw [hz.2, hd]; exact ho⟩
theorem de_errIs {x : Str} {cv : V} {CV : Value} {e : Expr} {q1 q2 pos : Pos} {m : Nat → Option Bool} (hm : ∀ cn b, m cn = some b → ErC X.K (A.cl cn) ∧ PySem.W.kitOne X.K (.ref (A.cl cn)) CV = some b) (hz : Zc p.cls p.dd oe) (hf : ∃ vs, oe.data = .fields vs)
    (hg : Gl X "isinstance") (hmi : X.mg "isinstance" = none) (hcv : ∀ u, RelV cv u → u = CV) (hC : PE (X.suite p.a ((p.a, oe) :: pn)) (.Name x q2) (tC cv)) (he : DE (X.suite p.a ((p.a, oe) :: pn)) (A.at p) B E e fe)
    (hs1 : starEach [e, .Name x q2] X.env = (false, eval e X.env) :: starEach [.Name x q2] X.env := by rfl) (hpl : (backTo pos (starEach [.Name x q2] X.env)).any (·.1) = false := by rfl) (hs2 : starEach [.Name x q2] X.env = (false, eval (.Name x q2) X.env) :: starEach [] X.env := by rfl) :
    DE (X.suite p.a ((p.a, oe) :: pn)) (A.at p) B E (.Call (.Name "isinstance" q1) [e, .Name x q2] [] pos) (ev1 (gErrIs m) fe) :=
  PE.imp (pe_callB (call_errIs hz hf) hg hmi (by with_unfolding_all rfl) (pa_cons he (pa_cons hC pa_nil hs2) hs1) (by decide) (by decide) hs1 hpl) fun σ H Q ⟨Hb, c, s, q⟩ => by
    show rdE (A.at p) B E fe σ H fun v H1 => rErrIs X.K p [v, cv] H1 Q
    refine rd_then s q fun k d c1 v Hb1 H1 _ s1 t1 r1 q1 => ?_
    cases d with
    | err cn ds =>
      change EPost (A.at p) B E Hb1 H1 σ Q (ofO c1 ((m cn).map fun b => (Kd.st, D.bl b))) at q1
      cases em : m cn with
      | none => rw [em] at q1; exact q1.elim
      | some b =>
        rw [em] at q1
        obtain ⟨T, e1⟩ := hm cn b em
        obtain ⟨fs, e2, e3, e4, e5⟩ := err_inv r1.o
        refine ⟨cv, CV, A.cl cn, b, by rw [e2], hcv, e3, T.x, e1, ?_, q1 _ Hb1 H1 s1 .refl rk_bl⟩
        rcases e5 with ⟨_, z⟩ | ⟨da, z1, z2, _⟩
        · exact .inl z
        · exact .inr ⟨da, fs, z1, s1.same _ _ z2⟩
    | _ => exact q1.elim
end
end DL
namespace DL
open PySem PySem.Spec PyProof.Rows L2
/-! ### f(lambda: e), f: try: work() / except C as e: suite; return None -/
section
variable {X : Cx} {A : Am} {p : ErA} {B : Bs} {E : XS} {Hb H H1 : Hp} {σ : List (Option V)} {c : Cfg} {W : Wd} {d : D} {v : V} {fe : EF} {g : SF} {i n : Nat} {m : Nat → Option Bool}
theorem Sr.extN (s : Sr A B Hb H σ c) (e : LamX.ExtN H H1) (t : LamX.Tabs A.T H1) : Sr A B Hb H1 σ c := by
  have kp : Kept A H H1 := ⟨fun p o h nt => ⟨o, e p o h nt, nt⟩, fun p o h _ nt => e p o h nt⟩
  refine ⟨⟨⟨fun p o h => e p o (s.fin.hr.same p o h) fun ps z => s.fin.hr.notb p ps (by rw [h, z]), s.fin.hr.notb, fun w hw => ?_, t⟩, s.fin.b0, s.fin.kp.trans kp, s.fin.nb⟩, s.len, s.sh, fun i d h => ?_, s.sep, fun q h => ?_⟩
  · obtain ⟨h1, h2, h3, h4, h5⟩ := s.fin.hr.w w hw
    exact ⟨e _ _ h1 (fun ps z => by cases z), e _ _ h2 (fun ps z => by cases z), h3, h4, h5⟩
  · obtain ⟨a, o, h1, h2, h3, h4⟩ := s.ow i d h
    exact ⟨a, o, h1, e _ _ h2 h3.notb, h3, h4⟩
  · obtain ⟨⟨o, h1, n1⟩, h2⟩ := s.pr q h
    exact ⟨⟨o, e _ _ h1 n1, n1⟩, h2⟩
theorem kept_extN (e : LamX.ExtN H H1) : Kept A H H1 := ⟨fun p o h nt => ⟨o, e p o h nt, nt⟩, fun p o h _ nt => e p o h nt⟩
def blank (n i : Nat) (x : XD) : List (Option (Bool × D)) := (List.replicate n none).set i (some (false, errD x))
/-- what the def gives -/
def evRef (n i : Nat) (m : Nat → Option Bool) (g : SF) (fe : EF) : EF := fun c => match fe c with
  | .ok _ _ c1 => .ok .st .non c1
  | .exc x c1 => (match m x.1 with
    | some true => if i < n then (match cleanS i (g ⟨blank n i x, c1.W⟩) with
      | .nx c2 => .ok .st .non ⟨c1.r, c2.W⟩
      | .ret fr d W => .ok (if fr then .fr else .st) d ⟨c1.r, W⟩
      | _ => .bad) else .bad
    | _ => .bad)
  | .bad => .bad
def rdSy (A : Am) (g : SF) : TS := fun D σ H => ∃ B, rdS A B E0S g D σ H
theorem pssy {l : List Stmt} (h : ∀ B, DSs X A B E0S l g) : PSs X l (rdSy A g) := ⟨fun pins s σ H D I ⟨B, q⟩ => (h B).run pins s σ H D I q⟩
def RefEnds (Q : VK) : Ends := { nx := fun _ H' => Q .non H', rt := Q }
/-- what the def makes of the lambda's reading -/
def TTRef (K : PySem.W.Frag) (A : Am) (n i : Nat) (C : Value) (g : SF) : (XK → Hp → VK → Prop) → Hp → VK → Prop := fun tl H Q =>
  tl (fun cls d H' => ∀ σ' : L2.St, σ'.length = n → wAs K C i (fun a cls d => rdSy (A.at ⟨a, cls, d⟩) g) (fun _ _ _ _ => False) (RefEnds Q) cls d σ' H') H fun _ H' => Q .non H'
theorem takes_len {W : WX} (tk : Takes X W) : Takes X (fun cls d σ' H' => σ'.length = X.N.length → W cls d σ' H') := fun u s' xx => by
  obtain ⟨a, G, sI, pins, σ, H, cls, d, e, I, nb, up, sky, na, os, ag, w⟩ := xx
  exact tk u s' ⟨a, G, sI, pins, σ, H, cls, d, e, I, nb, up, sky, na, os, ag, w I.len⟩
theorem fresh_sr {σ' : L2.St} (s : Fin A B Hb H W) (hl : σ'.length = n) : Sr A ⟨Hb, H, fun _ => False⟩ Hb H σ' ⟨List.replicate n none, W⟩ := by
  have no : ∀ {i : Nat} {u : Bool × D}, (List.replicate n none : List (Option (Bool × D)))[i]? = some (some u) → False := fun {i u} e => by
    rw [List.getElem?_replicate] at e
    split at e <;> cases e
  exact ⟨⟨s.hr, Same.refl _, Kept.refl _, fun p o e _ _ => e⟩, by simp [hl], fun i d e => (no e).elim, fun i d e => (no e).elim, fun i j di dj a e _ _ _ => (no e).elim, fun p z => z.elim⟩
/-- from the data to the def's reading -/
theorem ref_rd {K : PySem.W.Frag} {C : Value} {Q : VK} (h0 : A.er = none) (hm : ∀ cn b, m cn = some b → PySem.W.exmOne K (.ref (A.cl cn)) C = some b) (s : Sr A B Hb H σ c) (q : EPost A B E Hb H σ Q (evRef n i m g fe c)) (e1 : LamX.ExtN H H1) (t1 : LamX.Tabs A.T H1) :
    TTRef K A n i C g (fun E H' Q' => rdE A B (fun _ => E) fe σ H' Q') H1 Q := by
  have s1 := s.extN e1 t1
  have k1 : Stp A Hb H Hb H1 := ⟨Same.refl _, kept_extN e1⟩
  refine ⟨Hb, c, s1, ?_⟩
  unfold evRef at q
  cases ef : fe c with
  | bad => rw [ef] at q; exact q.elim
  | ok k d c1 =>
    rw [ef] at q
    intro v Hb' H' s2 t2 _
    exact q .non Hb' H' s2 (k1.trans t2) rk_non
  | exc x c1 =>
    rw [ef] at q
    dsimp only at q
    intro cls dd Hb' H' t2 s2 ex σ' hl
    cases em : m x.1 with
    | none => rw [em] at q; exact q.elim
    | some b =>
      cases b with
      | false => rw [em] at q; exact q.elim
      | true =>
        rw [em] at q
        dsimp only at q
        split at q
        rotate_left
        · exact q.elim
        rename_i hi
        refine ⟨true, by rw [ex.1]; exact hm _ _ em, fun _ a na => ?_, fun z => by cases z⟩
        have s3 : Sr (A.at ⟨a, cls, dd⟩) ⟨Hb', H', fun _ => False⟩ Hb' H' σ' ⟨List.replicate n none, c1.W⟩ := (fresh_sr s2.fin hl).toAt h0
        refine ⟨_, Hb', _, s3.setS (i := i) (by simpa using hi) (err_rep h0 ex), ?_⟩
        show SPost (A.at ⟨a, cls, dd⟩) ⟨Hb', H', fun _ => False⟩ E0S Hb' (DeX i (RefEnds Q)) (g ⟨blank n i x, c1.W⟩)
        refine clean_post (E := E0S) ?_
        cases eg : cleanS i (g ⟨blank n i x, c1.W⟩) with
        | nx c2 =>
          rw [eg] at q
          exact fun σ2 Hb2 H2 e2 s4 => q .non Hb2 H2 (s2.called s4.fin) (k1.trans (t2.trans ⟨e2, s4.fin.kp⟩)) rk_non
        | ret fr d W =>
          rw [eg] at q
          exact fun v Hb2 H2 f r => q v Hb2 H2 (s2.called f) (k1.trans (t2.trans ⟨f.b0, f.kp⟩)) (RepR.toK s2 f r)
        | brk c2 => rw [eg] at q; exact q.elim
        | cnt c2 => rw [eg] at q; exact q.elim
        | exc y c2 => rw [eg] at q; exact q.elim
        | bad => rw [eg] at q; exact q.elim
/-- the def's own walk -/
theorem ref_gives {Ng : List Str} {x a xc nm q : Str} {sg : Scope} {gA : Addr} {cdg : Value} {C : Value} {b₀ : Stmt} {suite : List Stmt} {p1 p2 p3 p4 p5 p6 p7 p8 : Pos} {j : Nat} (hn : Ng.length = n) (h0' : ∀ f : Addr, (L2.start Ng [V.ref f])[0]? = some (some (V.ref f)))
    (hN : Ng.Nodup) (hi : Ng[i]? = some nm) (hln : sg.names.lookup nm = some .local)
    (hc : ∀ s H, Names (cxOf C8.CX0 X.prog X.w X.K X.mg X.base Ng x sg gA cdg X.A X.stack s H C8.E0).nox xc C)
    (hsu : ∀ (s : Shared) (H : Hp) (p : ErA) (oe : Obj) (pn : List (Addr × Obj)), Zc p.cls p.dd oe → (∃ vs, oe.data = .fields vs) → ∀ B, DSs (((cxOf C8.CX0 X.prog X.w X.K X.mg X.base Ng x sg gA cdg X.A X.stack s H C8.E0).nox).suite p.a ((p.a, oe) :: pn)) (A.at p) B E0S (b₀ :: suite) g) :
    LamX.GivesTo X Ng x sg gA cdg [.Try [.Expr (.Call (.Name a p1) [] [] p2) p3] [.ExceptHandler (some (.Name xc p4)) (some nm) (b₀ :: suite) p5] [] [] p6, .Return (some (.Constant .none j p7)) p8] a q (TTRef X.K A n i C g) := by
  intro f c' s H Q tl act hcd h
  let Y : Cx := (cxOf C8.CX0 X.prog X.w X.K X.mg X.base Ng x sg gA cdg X.A X.stack s H C8.E0).nox
  refine ⟨_, pss_cons (ps_try_as (X := Y) (i := i) (c := C)
      (tb := fun W D σ H => σ[0]? = some (some (.ref f)) ∧ H c' = some (LamX.CodeO c' q) ∧ tl (fun cls d H' => ∀ σ' : L2.St, σ'.length = n → W cls d σ' H') H fun _ H' => D.nx σ H')
      (ts := fun a cls d => rdSy (A.at ⟨a, cls, d⟩) g) (Wout := fun _ _ _ _ => False) rfl rfl hN hi hln (hc s H) LamX.takes0 (fun W pn xe tk _ => ?_) (fun a oe cls d pn hz hd => pssy fun B => hsu s H ⟨a, cls, d⟩ oe pn hz hd B))
      (pss_one (ps_ret pe_non)), ?_⟩
  · refine ⟨fun pins s' σ H' D I h' => ?_⟩
    obtain ⟨h1, h2, h3⟩ := h'
    have hp := act (fun cls d σ' H' => σ'.length = Y.N.length → W cls d σ' H') pn xe (fun cls d H' => ∀ σ' : L2.St, σ'.length = n → W cls d σ' H') p1 p2 (takes_len tk) (fun cls d σ' H' z hl => z σ' (hl.trans hn))
    have hq := pss_one (ps_expr (pos := p3) hp)
    exact hq.run pins s' σ H' D I ⟨h1, h2, h3⟩
  · exact ⟨h0' f, hcd, h⟩
theorem de_ref {x a q : Str} {gA cA P : Addr} {k : Nat} {pg : Arguments} {bg : List Stmt} {sg : Scope} {dV kV doc pm cdv ct oc : Value} {an od : Option Addr} {osl : Array (Option Value)} {Ng : List Str} {C : Value}
    {params : Arguments} {body : Expr} {scope : Scope} {p0 lpos pos : Pos} (h0 : A.er = none) (hm' : ∀ cn b, m cn = some b → PySem.W.exmOne X.K (.ref (A.cl cn)) C = some b) (hg : Gl X x) (hm : X.mg x = some (.ref gA)) (hk : PySem.W.keepIn X.K (.ref gA) = true)
    (lk : X.K.lookup gA = some ⟨oc, od, .func (PySem.W.fnOf x x pg bg sg dV kV doc pm an cdv ct), osl⟩) (hcg : PySem.W.codeIn X.K cdv x = true) (hb : L2.Binds X.K (PySem.W.fnOf x x pg bg sg dV kV doc pm an cdv ct) [a] []) (Sg : FnScope Ng [a] sg) (hNg : Ng[0]? = some a) (hva : Vis sg a)
    (hG : LamX.GivesTo X Ng x sg gA cdv bg a q (TTRef X.K A n i C g)) (hq : q = X.env.qual ++ "<lambda>")
    (TB : LamX.TabB X.base X.mg cA P) (hcode : X.env.code = .ref cA) (hmT : (P, q) ∈ A.T) (hu : ∀ p ∈ A.T, p.1 = P → p.2 = q) (hr : Room (k + 2) X.A) (L : LamX.LamS X.env.scope scope) (hdef : defaultsOf params X.env = ([], []))
    (hbind : ∀ (q : Str) (cl : List (Str × Addr)) (pm cv ctv : Value), bindArgs (PySem.W.kla_fn "<lambda>" q params body scope cl pm cv ctv) ⟨[], []⟩ = pure [])
    (hbody : ∀ (Ar : Around) (outer : List Env) (s : Shared) (H : Hp) (E : XK) (f c' : Addr), Room k (Ar.deeper (LamX.lamEnv X scope s.heap.objs.size f c')) → DE (LamX.lamCx X Ar outer s H E scope f c') A B (fun _ => E) body fe)
    (hdb : (x == ("__debug__" : Str)) = false := by decide) (hd : (a == ("__debug__" : Str)) = false := by decide) (hcd : (a == ("__classdict__" : Str)) = false := by decide) :
    DE X A B E (.Call (.Name x p0) [.Lambda params body scope lpos] [] pos) (evRef n i m g fe) := by
  subst hq
  refine PE.imp (LamX.pe_lamcall (T := A.T) (TT := TTRef X.K A n i C g) (t := fun E => rdE A B (fun _ => E) fe) hg hm hk lk hcg hb Sg hNg hva hG TB hcode hmT hu hr L hdef hbind (fun Ar outer s H E f c' hr' => hbody Ar outer s H E f c' hr') hdb hd hcd) fun σ H Q ⟨Hb, c, s, q⟩ => ?_
  exact ⟨s.fin.hr.tabs, fun H1 e1 t1 => ref_rd h0 hm' s q e1 t1⟩
end
end DL
namespace DL
open PySem PySem.Spec PyProof.Rows L2
/-! ### a def whose code object is known -/
structure FunC (K : PySem.W.Frag) (x : Str) (st : Stmt) (f : Addr) (fd : FuncData) (c : Addr) : Prop where
  ex : ∃ (oc : Value) (od : Option Addr) (kV doc pm : Value) (an : Option Addr) (ct : Value) (osl : Array (Option Value)),
    fd = PySem.W.fnOf x x (defArgs st) (defBody st) (defScope st) .none kV doc pm an (.ref c) ct ∧ K.lookup f = some ⟨oc, od, .func fd, osl⟩ ∧ PySem.W.codeIn K (.ref c) x = true
  kp : PySem.W.keepIn K (.ref f) = true
theorem FunC.fn {K : PySem.W.Frag} {x : Str} {st : Stmt} {f c : Addr} {fd : FuncData} (F : FunC K x st f fd c) : Fun K x x st f fd := by
  obtain ⟨oc, od, kV, doc, pm, an, ct, osl, e1, e2, e3⟩ := F.ex
  exact ⟨⟨oc, od, kV, doc, pm, an, .ref c, ct, osl, e1, e2, e3⟩, F.kp⟩
theorem funC_mk {K : PySem.W.Frag} {x : Str} {st : Stmt} {f c : Addr} {oc : Value} {od an : Option Addr} {osl : Array (Option Value)} {kV doc pm ct : Value} (l : K.lookup f = some ⟨oc, od, .func (PySem.W.fnOf x x (defArgs st) (defBody st) (defScope st) .none kV doc pm an (.ref c) ct), osl⟩)
    (h : PySem.W.codeIn K (.ref c) x = true) (k : PySem.W.keepIn K (.ref f) = true) : FunC K x st f (PySem.W.fnOf x x (defArgs st) (defBody st) (defScope st) .none kV doc pm an (.ref c) ct) c := ⟨⟨oc, od, kV, doc, pm, an, ct, osl, rfl, l, h⟩, k⟩
section
variable {P : Program} {w : World} {K : PySem.W.Frag} {mg : Str → Option Value} {base : Heap} {A : Am}
/-- a def where no guard stands, its code object known -/
theorem fnG_of {x : Str} {st : Stmt} {f c : Addr} {fd : FuncData} {N ps : List Str} {k : Nat} {sp : Sp} (F : FunC K x st f fd c) (S : FnScope N ps (defScope st)) (len : ∀ vs H Q E, sp vs H Q E → vs.length = ps.length)
    (hbody : ∀ (Ar : Around) (outer : List Env) (sh : Shared) (H : Hp) (vs : List V) (Q : VK) (E : XK), Room k (Ar.deeper (envOfC x (defScope st) sh.heap.objs.size f (.ref c))) → Ar.guards = some [] → sp vs H Q E →
      ∃ t, PSs (cxOf (L2.CX P w) P w K mg base N x (defScope st) f (.ref c) Ar outer sh H E) (defBody st) t ∧ t { nx := fun _ H' => Q .non H', rt := Q } (L2.start N vs) H) : FnG P w K mg base (k + 1) f fd ps sp := by
  refine ⟨len, fun Ar outer sh H args us vs Q E hr hg e0 hb r h => ?_⟩
  obtain ⟨oc, od, kV, doc, pm, an, ct, osl, rfl, lk, hcd⟩ := F.ex
  exact LamX.run_ofS lk hcd S hr e0 hb r (len _ _ _ _ h) fun hr' => hbody Ar outer sh H vs Q E hr' hg h
theorem def_okL {x : Str} {st : Stmt} {f c : Addr} {fd : FuncData} {N ps : List Str} {k n : Nat} {s : SF} (F : FunC K x st f fd c) (S : FnScope N ps (defScope st)) (hn : ps.length = n)
    (hbody : ∀ (Ar : Around) (outer : List Env) (sh : Shared) (H Hb : Hp) (E : XK), Room k (Ar.deeper (envOfC x (defScope st) sh.heap.objs.size f (.ref c))) → Ar.guards = some [] →
      DSs (cxOf (L2.CX P w) P w K mg base N x (defScope st) f (.ref c) Ar outer sh H E) A ⟨Hb, H, fun _ => False⟩ (fun _ => E) (defBody st) s) : FnG P w K mg base (k + 1) f fd ps (spD A n (runD N.length s)) :=
  fnG_of F S (fun vs H Q E h => by rw [hn]; exact h.1) fun Ar outer sh H vs Q E hr hg h => by
    obtain ⟨hl, Hb, ds, W, h1, h2, h3⟩ := h
    exact ⟨_, hbody Ar outer sh H Hb E hr hg, rd_start h1 h2 h3⟩
end
/-! ### try: body / except x: suite -/
def gone0 : SR → SR
  | .nx c => if noErrR c.r then .nx c else .bad
  | .brk c => if noErrR c.r then .brk c else .bad
  | .cnt c => if noErrR c.r then .cnt c else .bad
  | .ret fr d W => if noErr d then .ret fr d W else .bad
  | .exc _ _ => .bad
  | .bad => .bad
def sTry0 (m : Nat → Option Bool) (f g : SF) : SF := fun c => match f c with
  | .exc x c1 => (match m x.1 with
    | some true => (match g c1 with
      | .exc _ _ => .bad
      | r => r)
    | some false => .exc x c1
    | none => .bad)
  | r => r
section
variable {X : Cx} {A : Am} {B : Bs} {E : XS} {Hb H : Hp} {σ : List (Option V)} {fb g : SF}
theorem ds_try0 {x : Str} {c : Value} {m : Nat → Option Bool} {body suite : List Stmt} {b₀ : Stmt} {np pos pos' : Pos} (hs : X.stack = X.env :: X.outer) (hf : X.env.frame = some X.env.locals) (hc : Names X x c)
    (tk : Takes X (fun cls d σ H => E σ cls d H)) (hm : ∀ cn b, m cn = some b → PySem.W.exmOne X.K (.ref (A.cl cn)) c = some b)
    (hb : ∀ (W : WX) (pn : List (Addr × Obj)) (xe : Value → Shared → Prop), Takes (X.tr pn xe) W → PassesOwn (model X.prog X.w) X.A X.env xe → DSs (X.tr pn xe) A B (fun σ cls d H => W cls d σ H) body fb)
    (hsu : ∀ (a : Addr) (oe : Obj) (pn : List (Addr × Obj)), (∃ vs, oe.data = .fields vs) → DSs (X.suite a ((a, oe) :: pn)) A B E0S (b₀ :: suite) g) :
    DS X A B E (.Try body [.ExceptHandler (some (.Name x np)) none (b₀ :: suite) pos'] [] [] pos) (sTry0 m fb g) := by
  refine PS.imp (ps_try_only (tb := fun W => rdS A B (fun σ cls d H => W cls d σ H) fb) (ts := fun a cls d => rdS A B E0S g) (Wout := fun cls d σ H => E σ cls d H) hs hf hc tk hb (fun a oe cls d pn hz hd => hsu a oe pn hd)) fun D σ H ⟨Hb, c0, s, q⟩ => ⟨Hb, c0, s, ?_⟩
  unfold sTry0 at q
  cases e : fb c0 with
  | nx c => rw [e] at q; exact q
  | ret fr d W => rw [e] at q; exact q
  | brk c => rw [e] at q; exact q
  | cnt c => rw [e] at q; exact q
  | bad => rw [e] at q; exact q
  | exc x c1 =>
    rw [e] at q
    dsimp only at q
    intro σ' cls dd Hb' H' e1 s1 ex
    show wOnly X.K c _ _ D cls dd σ' H'
    cases em : m x.1 with
    | none => rw [em] at q; exact q.elim
    | some b =>
      rw [em] at q
      refine ⟨b, by rw [ex.1]; exact hm _ _ em, fun hb a na => ?_, fun hb => ?_⟩
      · subst hb
        dsimp only at q
        refine ⟨Hb', _, s1, ?_⟩
        cases eg : g c1 with
        | nx c => rw [eg] at q; exact q.mono e1
        | ret fr d W => rw [eg] at q; exact q
        | brk c => rw [eg] at q; exact q.mono e1
        | cnt c => rw [eg] at q; exact q.mono e1
        | bad => rw [eg] at q; exact q.elim
        | exc x c => rw [eg] at q; exact q.elim
      · subst hb
        exact q σ' cls dd Hb' H' e1 s1 ex
end
/-! ### tables, the law's entry, the end -/
theorem tabIn_of {K : PySem.W.Frag} {x : Str} {f c P : Addr} {oc ol : Value} {od odl : Option Addr} {fd : FuncData} {sl sll : Array (Option Value)} {vs : Array Value} (a : PySem.W.nsIn K mainGlobals x = some (some (.ref f))) (l : K.lookup f = some ⟨oc, od, .func fd, sl⟩) (hc : fd.code = .ref c) (lc : K.lookup c = some ⟨ol, odl, .fields vs, sll⟩) (hP : vs[11]? = some (.ref P)) : PySem.W.tabIn K x = some (c, P) := by
  unfold PySem.W.tabIn
  rw [a]
  dsimp only
  rw [l]
  dsimp only
  rw [hc]
  dsimp only
  rw [lc]
  dsimp only
  rw [hP]
theorem entry_of {P : Program} {w : World} {K : PySem.W.Frag} {mg : Str → Option Value} {cs : List (Addr × Addr)} {s : Shared} {fa a : Addr} {ns : List Int} {A0 : Am} {r : Nat} (hA : A0.K = K) (hr : Room r callerA)
    (hT : ∀ p ∈ A0.T, ∃ q ∈ cs, q.2 = p.1)
    (F : ∀ base : Heap, K.In base → base.Ns mainGlobals mg → (∀ p ∈ cs, LamX.TabB base mg p.1 p.2) → ∃ fd : FuncData, (∀ (s : Shared) (v : Value), BindsTo s fd ⟨[v], []⟩ [("script", v)]) ∧ FnG P w K mg base r fa fd ["script"] (spLaw A0)) : AtEntry P w K mg cs s fa a ns := by
  intro base H hK hns tb e0 ht hS
  obtain ⟨fd, hb, G⟩ := F base hK hns tb
  subst hA
  refine G.run callerA [] s H ⟨[.ref a], []⟩ [.ref a] [.ref a] _ _ hr rfl e0 (hb s (.ref a)) (.cons rfl .nil) ⟨a, ns, rfl, hS, fun p hp => ?_, fun _ => rfl⟩
  obtain ⟨q, hq, e⟩ := hT p hp
  exact LamX.TabS.nil (by rw [← e]; exact ht q hq)
theorem walk_dl {l : PySem.W.OpenLaw} {n : Nat} {q : Program} {loose : List Str} {XP : (Str → Option Value) → Heap → Prop} {YP : World → Heap → Prop} {d : DefRec} {K : Params → PySem.W.Frag}
    (hn : l.most = some n) (hn2 : n ≤ sizeLine) (hdf : d.params.defaults = []) (hY : ∀ (w : World) (h : Heap), YP w h → (K w.params).In h)
    (F : ∀ (w : World) (mg : Str → Option Value) (fa : Addr) (h : Heap), (K w.params).In h → h.Ns mainGlobals mg → mg d.name = some (.ref fa) → ∃ cs : List (Addr × Addr),
      (∀ p ∈ cs, ∃ x : Str, ((recsOf q).find? (fun e => e.name == x)).isSome = true ∧ PySem.W.tabIn (K w.params) x = some p ∧ (K w.params).lookup p.2 = none) ∧ ∀ (s : Shared) (a : Addr) (ns : List Int), AtEntry l.prog w (K w.params) mg cs s fa a ns) :
    PySem.W.WalkO q loose XP YP l.row.toRowW d [] (fun f vs => PySem.call f vs) := by
  refine Att.attach_callB hn hdf fun w s₀ s₁ mg mb fa o pm cd doc a vs ns G Y ho hd hcd hmg hobj hints hlen hbits hg => ?_
  have KX := hY w _ Y
  obtain ⟨cs, hcs, run⟩ := F w mg fa _ KX G.T.g hmg
  have tb : ∀ p ∈ cs, PySem.W.CodeHd s₁.heap p.1 p.2 ∧ s₁.heap.get? p.2 = some { cls := .none, data := .fields #[] } := fun p hp => by
    obtain ⟨x, h1, h2, h3⟩ := hcs p hp
    obtain ⟨r, hr⟩ := Option.isSome_iff_exists.mp h1
    exact PySem.W.tab_of G.T KX hr h2
  exact entry KX G.T.g G.T.b G.T.builtins G.T.nolimit hg (fun p hp => (tb p hp).2) (fun p hp => by obtain ⟨x, h1, h2, h3⟩ := hcs p hp; exact h3) (fun p hp => (tb p hp).1) G.T.bmain hobj hints (Nat.le_trans hlen hn2) (run s₁ a ns)
end DL
namespace DL
open PySem PySem.Spec PyProof.Rows L2
section
variable {P : Program} {w : World} {K : PySem.W.Frag} {mg : Str → Option Value} {base : Heap} {A : Am}
/-- a def whatever is around, its code object known -/
theorem fnK_of {x : Str} {st : Stmt} {f c : Addr} {fd : FuncData} {N ps : List Str} {k : Nat} {sp : Sp} (F : FunC K x st f fd c) (S : FnScope N ps (defScope st)) (len : ∀ vs H Q E, sp vs H Q E → vs.length = ps.length)
    (hbody : ∀ (Ar : Around) (outer : List Env) (sh : Shared) (H : Hp) (vs : List V) (Q : VK) (E : XK), Room k (Ar.deeper (envOfC x (defScope st) sh.heap.objs.size f (.ref c))) → sp vs H Q E →
      ∃ t, PSs (cxOf (L2.CX P w) P w K mg base N x (defScope st) f (.ref c) Ar outer sh H E) (defBody st) t ∧ t { nx := fun _ H' => Q .non H', rt := Q } (L2.start N vs) H) : FnOk P w K mg base (L2.CX P w) (k + 1) f fd ps sp := by
  obtain ⟨oc, od, kV, doc, pm, an, ct, osl, rfl, lk, hcd⟩ := F.ex
  exact fn_of lk hcd S len hbody
theorem def_okC {x : Str} {st : Stmt} {f c : Addr} {fd : FuncData} {N ps : List Str} {k n : Nat} {s : SF} (F : FunC K x st f fd c) (S : FnScope N ps (defScope st)) (hn : ps.length = n)
    (hbody : ∀ (Ar : Around) (outer : List Env) (sh : Shared) (H Hb : Hp) (E : XK), Room k (Ar.deeper (envOfC x (defScope st) sh.heap.objs.size f (.ref c))) →
      DSs (cxOf (L2.CX P w) P w K mg base N x (defScope st) f (.ref c) Ar outer sh H E) A ⟨Hb, H, fun _ => False⟩ (fun _ => E) (defBody st) s) : FnOk P w K mg base (L2.CX P w) (k + 1) f fd ps (spD A n (runD N.length s)) :=
  fnK_of F S (fun vs H Q E h => by rw [hn]; exact h.1) fun Ar outer sh H vs Q E hr h => by
    obtain ⟨hl, Hb, ds, W, h1, h2, h3⟩ := h
    exact ⟨_, hbody Ar outer sh H Hb E hr, rd_start h1 h2 h3⟩
/-- a def that is never called -/
def F_bad : FF := fun _ _ => .bad
theorem bad_ok {f : Addr} {fd : FuncData} {ps : List Str} {k n : Nat} (hn : ps.length = n) : FnOk P w K mg base (L2.CX P w) k f fd ps (spD A n F_bad) :=
  ⟨fun vs H Q E h => by rw [hn]; exact h.1, fun _ _ _ _ _ _ _ _ _ _ _ _ _ h => by
    obtain ⟨_, _, _, _, _, _, z⟩ := h
    exact z.elim⟩
end
/-- the classes by number -/
def clOf (l : List Addr) (i : Nat) : Addr := l.getD i 0
/-- what a clause, an isinstance makes of an error, by its class -/
def tabM (l : List (Option Bool)) (i : Nat) : Option Bool := (l[i]?).join
/-! ### rules for errors -/
section
variable {c c1 : Cfg} {r r' : List (Option (Bool × D))} {W W' : Wd} {i n : Nat} {d : D} {b : Bool} {k : Kd} {ds : List D} {fe : EF} {fb g : SF} {Q : QE} {N BB CC : QC} {R : QR} {X : QX} {m : Nat → Option Bool}
def raiseK (cn : Nat) (X : QX) (k : Kd) (d : D) (c : Cfg) : Prop := k ≠ .bo ∧ X (cn, some d) c
theorem raise_st {cn : Nat} (q : X (cn, some d) c) : raiseK cn X .st d c := ⟨st_nb, q⟩
theorem raise_fr {cn : Nat} (q : X (cn, some d) c) : raiseK cn X .fr d c := ⟨fr_nb, q⟩
theorem wS_raise {cn : Nat} (h : wpE (fe c) (raiseK cn X) X) : wpS (sRaise cn fe c) ⟨N, R, BB, CC, X⟩ := by
  unfold sRaise
  cases e : fe c with
  | ok k d c1 =>
    rw [e] at h
    obtain ⟨h1, h2⟩ := h
    cases k with
    | bo => exact absurd rfl h1
    | st => exact ⟨h2⟩
    | fr => exact ⟨h2⟩
  | exc x c1 => rw [e] at h; exact h
  | bad => rw [e] at h; exact h
/-- how a suite's ends are looked at -/
def suiteQ (i : Nat) (Q : QS) : QS := ⟨fun c => noErrR (c.r.set i none) = true ∧ Q.n ⟨c.r.set i none, c.W⟩, fun fr d W => noErr d = true ∧ Q.r fr d W, fun c => noErrR (c.r.set i none) = true ∧ Q.b ⟨c.r.set i none, c.W⟩, fun c => noErrR (c.r.set i none) = true ∧ Q.c ⟨c.r.set i none, c.W⟩, fun _ _ => False⟩
theorem clean_w {sr : SR} (h : wpS sr (suiteQ i ⟨N, R, BB, CC, X⟩)) : wpS (cleanS i sr) ⟨N, R, BB, CC, X⟩ := by
  cases sr with
  | nx c => obtain ⟨h1, h2⟩ := h; unfold cleanS; dsimp only; rw [if_pos h1]; exact ⟨h2⟩
  | brk c => obtain ⟨h1, h2⟩ := h; unfold cleanS; dsimp only; rw [if_pos h1]; exact ⟨h2⟩
  | cnt c => obtain ⟨h1, h2⟩ := h; unfold cleanS; dsimp only; rw [if_pos h1]; exact ⟨h2⟩
  | ret fr d W => obtain ⟨h1, h2⟩ := h; unfold cleanS; dsimp only; rw [if_pos h1]; exact ⟨h2⟩
  | exc x c => exact h.h.elim
  | bad => exact h.h.elim
/-- a caught error, or one that goes on -/
def tryK (i : Nat) (m : Nat → Option Bool) (g : SF) (Q : QS) (x : XD) (c : Cfg) : Prop := ∃ b, m x.1 = some b ∧ (b = true → i < c.r.length ∧ wpS (g ⟨c.r.set i (some (false, errD x)), c.W⟩) (suiteQ i Q)) ∧ (b = false → Q.x x c)
theorem try_yes {x : XD} {QQ : QS} (hm : m x.1 = some true) (hi : Nat.ble (i + 1) r.length = true) (hr : r.set i (some (false, errD x)) = r') (q : wpS (g ⟨r', W⟩) (suiteQ i QQ)) : tryK i m g QQ x ⟨r, W⟩ := by
  subst hr
  exact ⟨true, hm, fun _ => ⟨Nat.le_of_ble_eq_true hi, q⟩, fun z => by cases z⟩
theorem try_no {x : XD} {QQ : QS} (hm : m x.1 = some false) (q : QQ.x x c) : tryK i m g QQ x c := ⟨false, hm, (fun z => by cases z), fun _ => q⟩
theorem wS_try (h : wpS (fb c) ⟨N, R, BB, CC, tryK i m g ⟨N, R, BB, CC, X⟩⟩) : wpS (sTry i m fb g c) ⟨N, R, BB, CC, X⟩ := by
  unfold sTry
  cases e : fb c with
  | nx c1 => rw [e] at h; exact h
  | ret fr d W => rw [e] at h; exact h
  | brk c1 => rw [e] at h; exact h
  | cnt c1 => rw [e] at h; exact h
  | bad => rw [e] at h; exact h
  | exc x c1 =>
    rw [e] at h
    obtain ⟨b, h1, h2, h3⟩ := h
    dsimp only
    rw [h1]
    cases b with
    | true =>
      obtain ⟨h4, h5⟩ := h2 rfl
      dsimp only
      rw [if_pos h4]
      exact clean_w h5
    | false => exact ⟨h3 rfl⟩
def try0K (m : Nat → Option Bool) (g : SF) (Q : QS) (x : XD) (c : Cfg) : Prop := ∃ b, m x.1 = some b ∧ (b = true → wpS (g c) ⟨Q.n, Q.r, Q.b, Q.c, fun _ _ => False⟩) ∧ (b = false → Q.x x c)
theorem try0_yes {x : XD} {QQ : QS} (hm : m x.1 = some true) (q : wpS (g c) ⟨QQ.n, QQ.r, QQ.b, QQ.c, fun _ _ => False⟩) : try0K m g QQ x c := ⟨true, hm, fun _ => q, fun z => by cases z⟩
theorem try0_no {x : XD} {QQ : QS} (hm : m x.1 = some false) (q : QQ.x x c) : try0K m g QQ x c := ⟨false, hm, (fun z => by cases z), fun _ => q⟩
theorem wS_try0 (h : wpS (fb c) ⟨N, R, BB, CC, try0K m g ⟨N, R, BB, CC, X⟩⟩) : wpS (sTry0 m fb g c) ⟨N, R, BB, CC, X⟩ := by
  unfold sTry0
  cases e : fb c with
  | nx c1 => rw [e] at h; exact h
  | ret fr d W => rw [e] at h; exact h
  | brk c1 => rw [e] at h; exact h
  | cnt c1 => rw [e] at h; exact h
  | bad => rw [e] at h; exact h
  | exc x c1 =>
    rw [e] at h
    obtain ⟨b, h1, h2, h3⟩ := h
    dsimp only
    rw [h1]
    cases b with
    | true =>
      have h5 := h2 rfl
      dsimp only
      cases eg : g c1 with
      | nx c => rw [eg] at h5; exact h5
      | ret fr d W => rw [eg] at h5; exact h5
      | brk c => rw [eg] at h5; exact h5
      | cnt c => rw [eg] at h5; exact h5
      | exc x c => rw [eg] at h5; exact h5.h.elim
      | bad => rw [eg] at h5; exact h5
    | false => exact ⟨h3 rfl⟩
/-! what is asked of an error -/
def errK (ok : Nat → Bool) (Q : QE) (d : D) (c : Cfg) : Prop := ∃ cn e, d = .err cn [e] ∧ ok cn = true ∧ Q .st e c
theorem err_i {ok : Nat → Bool} {cn : Nat} (h : ok cn = true) (q : Q .st d c) : errK ok Q (.err cn [d]) c := ⟨cn, d, rfl, h, q⟩
theorem wE_errAt {ok : Nat → Bool} (h : wpE (fe c) (fun _ d c1 => errK ok Q d c1) (fun _ _ => False)) : wpE (evErrAt ok fe c) Q X := by
  unfold evErrAt
  cases e : fe c with
  | ok k d c1 =>
    rw [e] at h
    obtain ⟨cn, e', rfl, h1, h2⟩ := h
    dsimp only
    rw [if_pos h1]
    exact ⟨h2⟩
  | exc x c1 => rw [e] at h; exact h.h.elim
  | bad => rw [e] at h; exact h.h.elim
theorem wO_errIs {QO : Kd → D → Prop} {cn : Nat} {es : List D} (h : m cn = some b) (q : QO .st (.bl b)) : wpO (gErrIs m (.err cn es)) QO := ⟨.st, .bl b, by unfold gErrIs; dsimp only; rw [h]; rfl, q⟩
/-! a lambda handed to a def that tries it -/
def refK (n i : Nat) (m : Nat → Option Bool) (g : SF) (Q : QE) (x : XD) (c : Cfg) : Prop := m x.1 = some true ∧ i < n ∧ wpS (cleanS i (g ⟨blank n i x, c.W⟩)) ⟨fun c2 => Q .st .non ⟨c.r, c2.W⟩, fun fr d W => Q (frK fr) d ⟨c.r, W⟩, fun _ => False, fun _ => False, fun _ _ => False⟩
theorem wE_ref (h : wpE (fe c) (fun _ _ c1 => Q .st .non c1) (refK n i m g Q)) : wpE (evRef n i m g fe c) Q X := by
  unfold evRef
  cases e : fe c with
  | ok k d c1 => rw [e] at h; exact h
  | bad => rw [e] at h; exact h
  | exc x c1 =>
    rw [e] at h
    obtain ⟨h1, h2, h3⟩ := h
    dsimp only
    rw [h1]
    dsimp only
    rw [if_pos h2]
    cases eg : cleanS i (g ⟨blank n i x, c1.W⟩) with
    | nx c => rw [eg] at h3; exact ⟨h3.h⟩
    | ret fr d W => rw [eg] at h3; exact ⟨h3.h⟩
    | brk c => rw [eg] at h3; exact h3.h.elim
    | cnt c => rw [eg] at h3; exact h3.h.elim
    | exc x c => rw [eg] at h3; exact h3.h.elim
    | bad => rw [eg] at h3; exact h3.h.elim
/-- a suite that is one return -/
theorem ref_ret {x : XD} {fr : Bool} (hm : m x.1 = some true) (hi : i < n) (hg : ∀ W, cleanS i (g ⟨blank n i x, W⟩) = .ret fr d W) (q : Q (frK fr) d ⟨r, W⟩) : refK n i m g Q x ⟨r, W⟩ := ⟨hm, hi, by rw [hg]; exact ⟨q⟩⟩
end
end DL
namespace DL
open PySem PySem.Spec PyProof.Rows L2
/-! ### facts of classes -/
theorem kitCls_of {K : PySem.W.Frag} {D : Value} {C : Addr} {b : Bool} (hd : PySem.W.hasDictIn K C = true) (ty : PySem.W.typeIn K (.ref C) = some (.type "type")) (s : PySem.W.subIn K D (.ref C) = some b) : PySem.W.kitCls K D (.ref C) = some b := by
  obtain ⟨cd, hc, _⟩ := PySem.W.any_some hd
  have e2 : ((PySem.W.clsIn K C).isSome && PySem.W.typeIn K (.ref C) == some (.type "type")) = true := by rw [hc, ty] <;> rfl
  show (if ((PySem.W.clsIn K C).isSome && PySem.W.typeIn K (.ref C) == some (.type "type")) = true then PySem.W.subIn K D (.ref C) else none) = some b
  rw [if_pos e2]
  exact s
theorem exmOne_of {K : PySem.W.Frag} {D : Value} {C : Addr} {b : Bool} (ex : PySem.W.subIn K (.ref C) (.type "BaseException") = some true) (h : PySem.W.kitCls K D (.ref C) = some b) : PySem.W.exmOne K D (.ref C) = some b := by
  have e1 : (PySem.W.subIn K (.ref C) (.type "BaseException") == some true) = true := by rw [ex] <;> rfl
  show (if (PySem.W.subIn K (.ref C) (.type "BaseException") == some true) = true then PySem.W.kitCls K D (.ref C) else none) = some b
  rw [if_pos e1]
  exact h
theorem kitOne_of {K : PySem.W.Frag} {D : Value} {C : Addr} {b : Bool} (self : PySem.W.kitCls K (.ref C) (.ref C) = some true) (h : PySem.W.kitCls K D (.ref C) = some b) : PySem.W.kitOne K D (.ref C) = some b := by
  unfold PySem.W.kitOne
  split
  · rename_i z
    obtain rfl := beq_iff_eq.mp z
    rw [self] at h
    exact h
  · exact h
/-- what the written part says of a tested class -/
structure TsC (K : PySem.W.Frag) (C : Addr) : Prop where
  ex : PySem.W.subIn K (.ref C) (.type "BaseException") = some true
  hd : PySem.W.hasDictIn K C = true
  ty : PySem.W.typeIn K (.ref C) = some (.type "type")
  self : PySem.W.subIn K (.ref C) (.ref C) = some true
theorem atC_mk {prog : Program} {K : PySem.W.Frag} {C fI cc cda N : Addr} {nm q qn : Str} {bs bm : List Value} {sn : List Str} {sub : List Value} {ab : Bool} {col : Option Bool} {dd : Option Addr} {k0 k1 k2 k3 k5 : Option Value} {params : Arguments} {scope : Scope} {dV kV doc pm ct oc ccl cl : Value} {an od cdd cld : Option Addr} {osl ccs csl : Array (Option Value)}
    {vs : Array Value} {file txt : Str} {tf : Tok} {j : Nat} {p0 p1 p2 p3 p4 p5 p6 p7 p8 p9 : Pos} {ar : Arg}
    (hC : K.lookup C = some (excClassObj nm q C N bs bm true sn sub ab col dd k0 k1 k2 k3 k5 "ValueError.__new__")) (hbm : PySem.HandSPX.refsVE bm = true)
    (iC : PySem.W.findIn K (.ref C) "__init__" = some (some (.ref fI)))
    (lk : K.lookup fI = some ⟨oc, od, .func (PySem.W.ksFn "__init__" qn params (PySem.OWX.atBody txt j p0 p1 p2 p3 p4 p5 p6 p7 p8 p9) scope dV kV doc pm an (.ref cda) ct cc), osl⟩) (hcd : PySem.W.codeIn K (.ref cda) qn = true)
    (hbind : ∀ (s : Shared) (x : Addr) (u : Value), BindsTo s (PySem.W.ksFn "__init__" qn params (PySem.OWX.atBody txt j p0 p1 p2 p3 p4 p5 p6 p7 p8 p9) scope dV kV doc pm an (.ref cda) ct cc) ⟨[.ref x, u], []⟩ [("self", .ref x), ("at", u)])
    (hp : (params.posonlyargs ++ params.args).head? = some ar) (har : ar.arg = "self")
    (hcode : K.lookup cda = some ⟨ccl, cdd, .fields vs, ccs⟩) (hvs : vs[2]? = some (.str file tf)) (hfile : ((prog.main.file : Str) == file) = true)
    (hcell : K.lookup cc = some ⟨cl, cld, .cell (some (.ref C)), csl⟩)
    (s1 : scope.names.lookup ("super" : Str) = some .globalImplicit) (s2 : scope.names.lookup ("__class__" : Str) = some .free) (s3 : scope.names.lookup ("self" : Str) = some .local) (s4 : scope.names.lookup ("at" : Str) = some .local) (s5 : (p2.endLine == p4.line) = true)
    (s6 : ∀ x ∈ scope.names, x.2 ≠ .cell) (s7 : scope.isCoroutine = false) (s8 : scope.isGenerator = false) (s9 : scope.kind = .function)
    (htop : (prog.main.scope.names.lookup ("super" : Str)).isSome = false) (hopq : PySem.W.nsIn K cStatics "thirdparty.any" = some none)
    (hsup : PySem.W.alongIn K "__init__" bm = some (some (.builtin "ValueError.__init__"))) (hB : PySem.W.subIn K (.ref C) (.type "ValueError") = some true) (hmro : PySem.W.mroIn K C (.ref C) = some true) (tI : PySem.W.typeIn K (.ref fI) = some (.type "function"))
    (sa : PySem.W.findIn K (.ref C) "__setattr__" = some (some (.builtin "object.__setattr__"))) (exC : PySem.W.subIn K (.ref C) (.type "BaseException") = some true) (tyC : PySem.W.typeIn K (.ref C) = some (.type "type")) (kC : PySem.W.keepIn K (.ref C) = true) (no : PySem.W.findIn K (.ref C) "at" = some none) : AtC prog K C :=
  ⟨⟨fI, cc, cda, nm, q, qn, N, bs, bm, sn, sub, ab, col, dd, k0, k1, k2, k3, k5, params, scope, dV, kV, doc, pm, ct, oc, ccl, cl, an, od, cdd, cld, osl, ccs, csl, vs, file, txt, tf, j, p0, p1, p2, p3, p4, p5, p6, p7, p8, p9, ar,
    ⟨hC, hbm⟩, lk, hcd, hbind, ⟨hp, har⟩, ⟨hcode, hvs, hfile⟩, hcell, ⟨s1, s2, s3, s4, s5, s6, s7, s8, s9⟩, htop, hopq, hsup, hB, hmro, iC, tI⟩, sa, exC, tyC, kC, no⟩
theorem passLm {X : Cx} {Ar : Around} {outer : List Env} {s : Shared} {H : Hp} {E : XK} {scope : Scope} {f c' : Addr} : PassS (LamX.lamCx X Ar outer s H E scope f c') (fun _ => E) := PassS.tk (takes_of rfl rfl rfl rfl)
end DL
namespace DL
open PySem PySem.Spec PyProof.Rows L2
/-! ### comprehensions of any number of clauses -/
section
variable {elt : Expr} {gens : List Comprehension} {scope : Scope} {pos : Pos} {t i t1 i1 : Expr} {ifs ifs1 : List Expr} {k : Nat}
theorem turn_mid (h0 : gens[k]? = some ⟨t, i, ifs, 0⟩) (h1 : gens[k + 1]? = some ⟨t1, i1, ifs1, 0⟩) (it acc : Value) (env : Env) :
    compTurn (.ListComp elt gens scope pos) k it acc env = (do
      standAt i.pos
      match ← pyNext it with
      | none => pure (.done .next)
      | some v =>
        letOwnedTupleGo t it v; assign t env v
        let mut ok := true
        for c in ifs do if ok then ok ← isTrue c env (eval c env)
        if ok then
          let x ← eval i1 env
          standAt i1.pos
          let x ← foldedSetIterable i1 env x
          let _ ← runOwn (.compStart (.ListComp elt gens scope pos) (k + 1) (← holding [x] (pyIter x)) acc env) env
        again (.compLoop (.ListComp elt gens scope pos) k it acc env)) := by
  unfold compTurn
  dsimp only
  rw [h0]
  dsimp only
  rw [h1]
  rfl
theorem turn_last (h0 : gens[k]? = some ⟨t, i, ifs, 0⟩) (h1 : gens[k + 1]? = none) (it acc : Value) (env : Env) :
    compTurn (.ListComp elt gens scope pos) k it acc env = (do
      standAt i.pos
      match ← pyNext it with
      | none => pure (.done .next)
      | some v =>
        letOwnedTupleGo t it v; assign t env v
        let mut ok := true
        for c in ifs do if ok then ok ← isTrue c env (eval c env)
        if ok then (do let _ ← call (.builtin "list.append") [acc, ← eval elt env])
        again (.compLoop (.ListComp elt gens scope pos) k it acc env)) := by
  unfold compTurn
  dsimp only
  rw [h0]
  dsimp only
  rw [h1]
  rfl
variable {prog : Program} {w : World} {A : Around} {R : Result → Shared → Prop} {s : Shared} {it acc : Value} {env : Env}
/-- what stands behind clause k - 1: the next clause's loop, or the element -/
def bodyWp (prog : Program) (w : World) (A : Around) (elt : Expr) (gens : List Comprehension) (scope : Scope) (pos : Pos) (k : Nat) (acc : Value) (env : Env) (X : Value → Shared → Prop) (Q : Shared → Prop) (s : Shared) : Prop := match gens[k]? with
  | some g => wpAny (model prog w) A (eval g.iter env) (fun x s4 => wpAny (model prog w) A (pyIter x) (fun j s5 => codeAny (model prog w) A (.compStart (.ListComp elt gens scope pos) k j acc env) (fun r s' => match r with | .ok _ => Q s' | .error _ => False) s5) X s4) X s
  | none => wpAny (model prog w) A (eval elt env) (fun x s4 => wpAny (model prog w) A (call (.builtin "list.append") [acc, x]) (fun _ s5 => Q s5) X s4) X s
theorem loopC (h0 : gens[k]? = some ⟨t, i, ifs, 0⟩) (h1 : ∀ g, gens[k + 1]? = some g → g.is_async = 0 ∧ ∀ x, foldedSetIterable g.iter env x = pure x) (I : Nat → Shared → Prop)
    (turn : ∀ n s, I n s → wpAny (model prog w) A (pyNext it) (fun r s1 => match r with
      | none => R (.ok .next) s1
      | some v => wpAny (model prog w) A (letOwnedTupleGo t it v) (fun _ s2 => wpAny (model prog w) A (assign t env v) (fun _ s3 => wpAny (model prog w) A (forIn ifs true fun c r => if r = true then do let ok ← isTrue c env (eval c env); pure (ForInStep.yield ok) else pure (ForInStep.yield r))
          (fun ok s4 => if ok = true then bodyWp prog w A elt gens scope pos (k + 1) acc env (notedBy (model prog w) A env fun e s' => R (.error e) s') (fun s' => ∃ m, m < n ∧ I m s') s4 else ∃ m, m < n ∧ I m s4)
          (notedBy (model prog w) A env fun e s' => R (.error e) s') s3) (notedBy (model prog w) A env fun e s' => R (.error e) s') s2) (notedBy (model prog w) A env fun e s' => R (.error e) s') s1) (notedBy (model prog w) A env fun e s' => R (.error e) s') s)
    (n : Nat) (hI : I n s) : codeAny (model prog w) A (.compLoop (.ListComp elt gens scope pos) k it acc env) R s := by
  refine codeAny_loop rfl I (fun n s hn => ?_) n hI
  show wpAny _ A ((compTurn (.ListComp elt gens scope pos) k it acc env).onRaise (fun x => do noteFrame x env; theTreesLotGoes x)) _ _ s
  refine wpAny_noted ?_
  have key := turn n s hn
  cases h2 : gens[k + 1]? with
  | none =>
    unfold bodyWp at key
    rw [h2] at key
    rw [turn_last h0 h2]
    refine wpAny_bind (wpAny_standAt (wpAny_bind (wpAny_mono key (fun r s1 q1 => ?_) fun _ _ z => z)))
    cases r with
    | none => exact wpAny_pure q1
    | some v =>
      refine wpAny_bind (wpAny_mono q1 (fun _ s2 q2 => ?_) fun _ _ z => z)
      refine wpAny_bind (wpAny_mono q2 (fun _ s3 q3 => wpAny_bind (wpAny_mono q3 (fun ok s4 q4 => ?_) fun _ _ z => z)) fun _ _ z => z)
      cases ok with
      | false => exact wpAny_pure ⟨rfl, q4⟩
      | true => exact wpAny_bind (wpAny_bind (wpAny_mono q4 (fun x s5 q5 => wpAny_bind (wpAny_mono q5 (fun _ s6 q6 => wpAny_pure (wpAny_pure ⟨rfl, q6⟩)) fun _ _ z => z)) fun _ _ z => z))
  | some g =>
    obtain ⟨t1, i1, ifs1, a⟩ := g
    obtain ⟨ha, hf⟩ := h1 _ h2
    dsimp only at ha hf
    subst ha
    unfold bodyWp at key
    rw [h2] at key
    rw [turn_mid h0 h2]
    refine wpAny_bind (wpAny_standAt (wpAny_bind (wpAny_mono key (fun r s1 q1 => ?_) fun _ _ z => z)))
    cases r with
    | none => exact wpAny_pure q1
    | some v =>
      refine wpAny_bind (wpAny_mono q1 (fun _ s2 q2 => ?_) fun _ _ z => z)
      refine wpAny_bind (wpAny_mono q2 (fun _ s3 q3 => wpAny_bind (wpAny_mono q3 (fun ok s4 q4 => ?_) fun _ _ z => z)) fun _ _ z => z)
      cases ok with
      | false => exact wpAny_pure ⟨rfl, q4⟩
      | true =>
        refine wpAny_bind (wpAny_mono q4 (fun x s5 q5 => ?_) fun _ _ z => z)
        refine wpAny_bind (wpAny_standAt (wpAny_bind (wpAny_of_eq (hf x) (wpAny_bind (wpAny_holding (wpAny_mono q5 (fun j s6 q6 => ?_) fun _ _ z => z))))))
        refine wpAny_bind (wpAny_runOwn ?_)
        rw [Around.mark_none]
        refine codeAny_mono q6 fun r s' hr => ?_
        cases r with
        | ok f => first | exact wpAny_pure ⟨rfl, hr⟩ | exact wpAny_bind (wpAny_pure (wpAny_pure ⟨rfl, hr⟩))
        | error e => exact hr.elim
/-- a later clause's start -/
theorem clStart (h0 : gens[k]? = some ⟨t, i, ifs, 0⟩) (h : codeAny (model prog w) A (.compLoop (.ListComp elt gens scope pos) k it acc env) R s)
    (h2 : wpAny (model prog w) A (pyIter it) (fun j s' => codeAny (model prog w) A (.compLoop (.ListComp elt gens scope pos) k j acc env) R s') (notedBy (model prog w) A env fun x s' => R (.error x) s') s) :
    codeAny (model prog w) A (.compStart (.ListComp elt gens scope pos) k it acc env) R s := by
  refine codeAny_of_tree ?_
  show wpAny _ _ ((compStart (.ListComp elt gens scope pos) k it acc env).onRaise (fun x => do noteFrame x env; standAt theWindowsPlace)) _ _ s
  refine wpAny_notedAt ?_
  unfold compStart
  have e : clausesOf (.ListComp elt gens scope pos) = gens := rfl
  rw [e, h0]
  show wpAny _ _ (ask >>= _) _ _ s
  refine wpAny_bind (wpAny_askSetting (wpAny_ite ?_))
  split
  · first
      | exact wpAny_bind (wpAny_pure (wpAny_pure (And.intro rfl h)))
      | exact wpAny_pure (And.intro rfl h)
  · first
      | exact wpAny_bind (wpAny_rule (wpAny_bind (wpAny_standAt (wpAny_bind (wpAny_mono h2 (fun j s' q => wpAny_pure (And.intro rfl q)) fun _ _ z => z)))))
      | (refine wpAny_bind (wpAny_rule ?_); show wpAny _ _ (standAt i.pos >>= _) _ _ s; exact wpAny_bind (wpAny_standAt (wpAny_bind (wpAny_mono h2 (fun j s' q => wpAny_pure (And.intro rfl q)) fun _ _ z => z))))
end
end DL
namespace DL
open PySem PySem.Spec PyProof.Rows L2
/-! ### the clauses behind the first one -/
abbrev WL := L2.St → Hp → (Hp → Prop) → Prop
def wEl (te : TE) (D : Addr) : WL := fun σ H N => te σ H fun y H1 => ∃ acc, H1 D = some (.lst acc) ∧ acc.length < sizeLine ∧ N (upd H1 D (.lst (acc ++ [y])))
def wCl (wi : TI) (g : TG) (tt : TT) (vs : List Nat) (w : WL) : WL := fun σ H N => wi σ H fun J H1 => ∃ W : Nat → Nat → Hp → Prop, (∃ m, W 0 m H1) ∧ ∀ j k H, W j k H →
  (J.stop j H ∧ N H) ∨ (J.go j H ∧ ∃ N1 : Hp → Prop, (∀ H', N1 H' → ∃ k', k' < k ∧ W (j + 1) k' H') ∧ ∀ x H', J.yld j H x H' → g x (L2.wipe σ vs) H' fun σ2 H2 => L2.wipe σ2 vs = L2.wipe σ vs ∧ tt σ2 H2 fun b H3 => if b = true then w σ2 H3 N1 else N1 H3)
def tLcN (wi : TI) (g : TG) (tt : TT) (w : Addr → WL) (vs : List Nat) : TE := fun σ H Q => wi σ H fun J H1 => ∀ D, H1 D = none → ∃ W : Nat → Nat → Hp → Prop, (∃ m, W 0 m (upd H1 D (.lst []))) ∧ ∀ i m H, W i m H →
  (J.stop i H ∧ Q (.ref D) H) ∨ (J.go i H ∧ ∃ N : Hp → Prop, (∀ H', N H' → ∃ m', m' < m ∧ W (i + 1) m' H') ∧ ∀ x H', J.yld i H x H' → g x (L2.wipe σ vs) H' fun σ2 H2 => L2.wipe σ2 vs = L2.wipe σ vs ∧ tt σ2 H2 fun b H3 => if b = true then w D σ2 H3 N else N H3)
section
variable {Y : Cx} {elt : Expr} {gens : List Comprehension} {scope : Scope} {pos : Pos} {k : Nat} {D : Addr}
def BodyOk (Y : Cx) (elt : Expr) (gens : List Comprehension) (scope : Scope) (pos : Pos) (k : Nat) (vs : List Nat) (D : Addr) (w : WL) : Prop :=
  ∀ (pins : List (Addr × Obj)) (s : Shared) (σ : L2.St) (H : Hp) (N : Hp → Prop) (Q : Shared → Prop) (E : Value → Shared → Prop), Inv Y pins σ H s → w σ H N →
    (∀ (s' : Shared) (σ' : L2.St) (H' : Hp), Inv Y pins σ' H' s' → σ'.length = σ.length → (∀ (j : Nat) v, (L2.wipe σ vs)[j]? = some (some v) → σ'[j]? = some (some v)) → N H' → Q s') →
    bodyWp Y.prog Y.w Y.A elt gens scope pos k (.ref D) Y.env E Q s
theorem body_el {te : TE} (hx : Y.xe = fun _ _ => False) (he : PE Y elt te) (hk : gens[k]? = none) : BodyOk Y elt gens scope pos k [] D (wEl te D) := by
  intro pins s σ H N Q E I hw hq
  unfold bodyWp
  rw [hk]
  have z := he.run pins s σ H _ I hw
  rw [hx] at z
  exact thnF z fun y s1 ⟨yv, H1, I1, r1, acc, hD1, hz1, hn⟩ => app_ok I1 hD1 hz1 r1 fun s2 I2 => hq s2 σ _ I2 rfl (fun _ _ e => e) hn
theorem body_cl {t i : Expr} {ifs : List Expr} {wi : TI} {g : TG} {tt : TT} {w : WL} {vs vs1 : List Nat} (hx : Y.xe = fun _ _ => False) (hc : Y.calm = true) (hk : gens[k]? = some ⟨t, i, ifs, 0⟩) (h1 : ∀ g, gens[k + 1]? = some g → g.is_async = 0 ∧ ∀ x, foldedSetIterable g.iter Y.env x = pure x)
    (hi : PI Y t i wi) (hg : PG Y t g) (ht : PTs Y ifs tt) (hv : ∀ a ∈ vs1, a ∈ vs) (hb : BodyOk Y elt gens scope pos (k + 1) vs1 D w) : BodyOk Y elt gens scope pos k vs D (wCl wi g tt vs w) := by
  intro pins s σ H N Q E I hw hq
  unfold bodyWp
  rw [hk]
  dsimp only
  have z := hi.run pins s σ H _ I hw
  rw [hx] at z
  refine thnF z fun xv sa qa => thnF qa fun itv sb qb => ?_
  obtain ⟨it, fp, tn, J, Ha, rfl, Ia, T, sta, fa, W, ⟨m0, w0⟩, turn⟩ := qb
  have stat : ∀ {H' : Hp}, (∀ b ∈ fp, H' b = none) → ∀ b ∈ fp, FpOk Y pins H' b := fun hn b hb => ⟨hn b hb, (fa b hb).2⟩
  have loop : codeAny (model Y.prog Y.w) Y.A (.compLoop (.ListComp elt gens scope pos) k (.ref it) (.ref D) Y.env) (fun r s' => match r with | .ok _ => Q s' | .error _ => False) sb := by
    refine loopC hk h1 (fun n s' => ∃ j H', Inv Y pins (L2.wipe σ vs) H' s' ∧ tn j s'.heap ∧ (∀ b ∈ fp, H' b = none) ∧ W j n H') ?_ m0 ⟨0, Ha, Ia.weak (L2.wipe_length _ _) (fun j v e => (L2.wipe_some e).1), sta, fun b hb => (fa b hb).1, w0⟩
    rintro n sc ⟨j, Hc, Ic, stc, nc, wc⟩
    rcases turn j n Hc wc with ⟨stop, hN⟩ | ⟨go, N1, hN1, step⟩
    · refine thnF (T.done Y rfl rfl rfl hc j _ sc (L2.wipe σ vs) Hc (fun _ _ => False) Ic (stat nc) stc stop) fun r sd ⟨hr, Id⟩ => ?_
      subst hr
      exact hq sd _ Hc Id (L2.wipe_length _ _) (fun _ _ e => e) hN
    · refine thnF (T.item Y rfl rfl rfl hc j _ sc (L2.wipe σ vs) Hc (fun _ _ => False) Ic (stat nc) stc go) fun r sd ⟨u, hr, qd⟩ => ?_
      subst hr
      refine thnF qd fun _ se ⟨x, He, Ie, re, ye, ste, ne⟩ => ?_
      have Ie' := Ie.pinned (stat ne) (T.obj _ _ ste)
      have zg := hg.run _ se (L2.wipe σ vs) He x u _ Ie' re (step x He ye)
      rw [hx] at zg
      refine thnF zg fun _ sf ⟨σf, Hf, If, hwf, qf⟩ => ?_
      have zt := ht.run _ sf σf Hf _ If qf
      rw [hx] at zt
      refine thnF zt fun b sg ⟨Hg, Ig, qg⟩ => ?_
      have fin : ∀ {s' : Shared} {σ' : L2.St} {H' : Hp}, Inv Y (pins ++ pinsAt fp se.heap) σ' H' s' → σ'.length = σf.length → (∀ (j : Nat) v, (L2.wipe σf vs1)[j]? = some (some v) → σ'[j]? = some (some v)) → N1 H' →
          ∃ m, m < n ∧ ∃ j H', Inv Y pins (L2.wipe σ vs) H' s' ∧ tn j s'.heap ∧ (∀ b ∈ fp, H' b = none) ∧ W j m H' := fun {s' σ' H'} I' hl hk' hn => by
        obtain ⟨m', hm, w'⟩ := hN1 H' hn
        have pin' : ∀ b ∈ fp, ∀ o, se.heap.get? b = some o → s'.heap.get? b = some o ∧ H' b = none := fun b hb o e => by
          have z := I'.pin (b, o) (List.mem_append_right _ (List.mem_append_right _ (mem_pinsAt hb e)))
          exact ⟨z.1, z.2.1⟩
        refine ⟨m', hm, j + 1, H', I'.unpinned.weak (by rw [hl, ← L2.wipe_length σf vs, hwf]) (fun j v e => ?_), T.keep _ _ _ ste fun b hb o e => (pin' b hb o e).1, fun b hb => ?_, w'⟩
        · rw [← hwf] at e
          obtain ⟨e1, e2⟩ := L2.wipe_some e
          refine hk' j v ?_
          rw [L2.wipe_out fun z => e2 (hv j z)]
          exact e1
        · obtain ⟨o, e, _⟩ := T.obj _ _ ste b hb
          exact (pin' b hb o e).2
      cases b with
      | false =>
        rw [if_neg (by simp)] at qg ⊢
        exact fin Ig rfl (fun j v e => (L2.wipe_some e).1) qg
      | true =>
        rw [if_pos rfl] at qg ⊢
        exact hb _ sg σf Hg N1 _ _ Ig qg fun s' σ' H' I' hl hk' hn => fin I' hl hk' hn
  exact clStart hk loop (T.self Y.A 0 _ _ _ sta loop)
end
end DL
namespace DL
open PySem PySem.Spec PyProof.Rows L2
/-! ### the whole comprehension -/
section
variable {X : Cx}
theorem lcN_core {pins : List (Addr × Obj)} {s : Shared} {σ : L2.St} {H : Hp} {Q : VK} {elt t i : Expr} {ifs : List Expr} {cs : List Comprehension} {scope : Scope} {own : List (Str × Nat)} {vs1 : List Nat} {pos pos' : Pos} {wi : TI} {g : TG} {tt : TT} {w : Addr → WL} {use : Option (Value → Sem Unit)} {Qf : Value → Shared → Prop}
    (hc : X.calm = true) (hN : X.N.Nodup) (I : Inv X pins σ H s) (hi : PI X t i wi) (ok : BlkOk X.N X.env.scope scope own) (hv : ∀ a ∈ vs1, a ∈ own.map (·.2))
    (hg : ∀ (s : Shared) (H : Hp) (C : Addr) (cl : List (Str × Addr)) (fp : List Addr), PG (X.blk s H scope (compEnvC scope cl C X.env) fp) t g)
    (ht : ∀ (s : Shared) (H : Hp) (C : Addr) (cl : List (Str × Addr)) (fp : List Addr), PTs (X.blk s H scope (compEnvC scope cl C X.env) fp) ifs tt)
    (hf : ∀ x, foldedSetIterable i X.env x = pure x) (h1 : ∀ g, cs.head? = some g → g.is_async = 0 ∧ ∀ env x, foldedSetIterable g.iter env x = pure x)
    (hb : ∀ (s : Shared) (H : Hp) (C : Addr) (cl : List (Str × Addr)) (fp : List Addr) (D : Addr), BodyOk (X.blk s H scope (compEnvC scope cl C X.env) fp) elt (⟨t, i, ifs, 0⟩ :: cs) scope pos 1 vs1 D (w D))
    (h : tLcN wi g tt w (own.map (·.2)) σ H Q)
    (hR : ∀ D C s' m H', Inv X pins σ H' s' → Q (.ref D) H' → s'.heap.Ns C m → FpOk X pins H' C → compPost (model X.prog X.w) X.A X.xe use Qf (.ref D) C (.ok .next) s') :
    wpAny (model X.prog X.w) X.A (comprehension (.ListComp elt (⟨t, i, ifs, 0⟩ :: cs) scope pos) scope X.env pos' (newList []) false (eval i X.env) use) Qf X.xe s := by
  have cells : ∀ y ∈ scope.names, y.2 = .free → ∃ c, X.env.cells.lookup y.1 = some c := fun y hy e => (ok.free y hy e).elim (fun z => I.ok.has _ (.inl z)) fun z => I.ok.has _ (.inr z)
  refine wpAny_comprehension_free (use := use) rfl hf (closure_ok cells) ok.kind (fun y hy e => by rw [ok.uniq y hy, e]) (thn (hi.run pins s σ H _ I h) fun xv sa qa => thn qa fun itv sb qb => ?_)
  obtain ⟨it, fp, tn, J, Hb, rfl, Ib, T, stb, fb, q⟩ := qb
  refine wpAny_newObj_type (newEnv_comp ?_) (by show 0 ≤ sizeLine; decide)
  generalize hD : sb.heap.objs.size = D
  have nD : Hb D = none := Ib.hok.fresh (Nat.le_of_eq hD)
  obtain ⟨W, ⟨m0, w0⟩, turn⟩ := q D nD
  generalize hsc : ({ sb with heap := sb.heap.push { cls := .type "list", data := .seq ([] : List Value).toArray } } : Shared) = sc
  have Ic : Inv X pins σ (upd Hb D (.lst [])) sc := by
    subst hsc
    refine Ib.laid (t' := sb.toks) (fun b o e => Heap.get?_push_of_some _ e) (Nat.le_of_eq hD) ⟨Nat.zero_le _, [], 0, .nil, ?_⟩
    rw [← hD]; exact Heap.get?_push_size _ rfl
  have ec : sc.heap = sb.heap.push { cls := .type "list", data := .seq ([] : List Value).toArray } := by rw [← hsc]
  have lt : ∀ b ∈ fp, b < sb.heap.objs.size := fun b hb => (T.obj _ _ stb b hb).elim fun o e => Heap.lt_size e.1
  have fc : ∀ b ∈ fp, FpOk X pins (upd Hb D (.lst [])) b ∧ b < sc.heap.objs.size := fun b hb => by
    have l := lt b hb
    exact ⟨⟨by rw [upd_ne (by rw [← hD]; exact Nat.ne_of_lt l)]; exact (fb b hb).1, (fb b hb).2⟩, by rw [ec, Heap.size_push]; exact Nat.lt_succ_of_lt l⟩
  have stc : tn 0 sc.heap := T.keep _ _ _ stb fun b _ o e => by rw [ec]; exact Heap.get?_push_of_some _ e
  have Id := block_start Ic ok hN fc
  have pg := hg sc (upd Hb D (.lst [])) sc.heap.objs.size (cellsFrom (sc.heap.objs.size + 1) scope.names (cloFrom X.env.cells scope.names [])) fp
  have pt := ht sc (upd Hb D (.lst [])) sc.heap.objs.size (cellsFrom (sc.heap.objs.size + 1) scope.names (cloFrom X.env.cells scope.names [])) fp
  have pb := hb sc (upd Hb D (.lst [])) sc.heap.objs.size (cellsFrom (sc.heap.objs.size + 1) scope.names (cloFrom X.env.cells scope.names [])) fp D
  show codeAny _ _ (.compStart (.ListComp elt (⟨t, i, ifs, 0⟩ :: cs) scope pos) 0 (.ref it) (.ref D) (compEnvC scope (cellsFrom (sc.heap.objs.size + 1) scope.names (cloFrom X.env.cells scope.names [])) sc.heap.objs.size X.env)) (compPost (model X.prog X.w) X.A X.xe use Qf (.ref D) sc.heap.objs.size) { sc with heap := pushCells (sc.heap.push { cls := .type "dict", data := .dict #[] }) scope.names }
  have nfp : ∀ b ∈ fp, (upd Hb D (.lst [])) b = none := fun b hb => (fc b hb).1.1
  generalize hce : compEnvC scope (cellsFrom (sc.heap.objs.size + 1) scope.names (cloFrom X.env.cells scope.names [])) sc.heap.objs.size X.env = ce at Id pg pt pb ⊢
  have cL : ce.locals = sc.heap.objs.size := by subst hce; rfl
  generalize hHc : upd Hb D (.lst []) = Hc at Ic Id pg pt pb w0 nfp fc
  generalize hsd : ({ sc with heap := pushCells (sc.heap.push { cls := .type "dict", data := .dict #[] }) scope.names } : Shared) = sd at Id ⊢
  have std : tn 0 sd.heap := T.keep _ _ _ stc fun b _ o e => by rw [← hsd]; exact pushCells_keeps _ _ _ _ (Heap.get?_push_of_some _ e)
  have stat : ∀ {σ' : L2.St} {H' : Hp} {s' : Shared}, Inv (X.blk sc Hc scope ce fp) [] σ' H' s' → (∀ b ∈ fp, H' b = none) → ∀ b ∈ fp, FpOk (X.blk sc Hc scope ce fp) [] H' b := fun {σ' H' s'} I' hn b hb =>
    ⟨hn b hb, (I'.ok.exf b hb).1, I'.ok.exfs b hb, .inl hb, fun x c e => (I'.ok.exf b hb).2 x c e, fun p hp => absurd (show p ∈ ([] : List (Addr × Obj)) ++ [] from hp) (by simp)⟩
  have loop : codeAny (model X.prog X.w) X.A (.compLoop (.ListComp elt (⟨t, i, ifs, 0⟩ :: cs) scope pos) 0 (.ref it) (.ref D) ce) (compPost (model X.prog X.w) X.A X.xe use Qf (.ref D) sc.heap.objs.size) sd := by
    refine loopC (gens := ⟨t, i, ifs, 0⟩ :: cs) rfl (fun g' e => ?_) (fun n s' => ∃ j H', Inv (X.blk sc Hc scope ce fp) [] (L2.wipe σ (own.map (·.2))) H' s' ∧ tn j s'.heap ∧ (∀ b ∈ fp, H' b = none) ∧ W j n H') ?_ m0 ⟨0, Hc, Id, std, nfp, w0⟩
    · have e' : cs.head? = some g' := by rw [← e]; cases cs <;> rfl
      exact ⟨(h1 g' e').1, fun x => (h1 g' e').2 ce x⟩
    rintro n se ⟨j, He, Ie, ste, ne, we⟩
    rcases turn j n He we with ⟨stop, qq⟩ | ⟨go, N, hNn, step⟩
    · refine thnF (T.done (X.blk sc Hc scope ce fp) rfl rfl rfl hc j [] se _ He (fun _ _ => False) Ie (stat Ie ne) ste stop) fun r sf ⟨hr, If⟩ => ?_
      subst hr
      have Ig : Inv X pins σ He sf := Ic.call' (ch := fp) If.os If.base If.hok If.bare fun b hb => ⟨(fc b hb).1.2.2.2.1, (fc b hb).1.2.1, (fc b hb).1.2.2.2.2.1, (fc b hb).1.2.2.2.2.2⟩
      have nC : He sc.heap.objs.size = none := by
        have z : He ce.locals = none := If.free
        rw [cL] at z; exact z
      obtain ⟨m, hn, _⟩ := If.loc
      replace hn : sf.heap.Ns ce.locals m := hn
      rw [cL] at hn
      exact hR D sc.heap.objs.size sf m He Ig qq hn (Ic.fpOk (Nat.le_refl _) nC)
    · refine thnF (T.item (X.blk sc Hc scope ce fp) rfl rfl rfl hc j [] se _ He (fun _ _ => False) Ie (stat Ie ne) ste go) fun r sf ⟨u, hr, qf⟩ => ?_
      subst hr
      refine thnF qf fun _ sg ⟨x, Hg, Ig, rg, yg, stg, ng⟩ => ?_
      have Ig' := Ig.pinned (stat Ig ng) (T.obj _ _ stg)
      refine thnF (pg.run _ sg _ Hg x u _ Ig' rg (step x Hg yg)) fun _ sh ⟨σh, Hh, Ih, hwh, qh⟩ => ?_
      refine thnF (pt.run _ sh σh Hh _ Ih qh) fun b sk ⟨Hk, Ik, qk⟩ => ?_
      have fin : ∀ {σ' : L2.St} {s' : Shared} {H' : Hp}, Inv (X.blk sc Hc scope ce fp) ([] ++ pinsAt fp sg.heap) σ' H' s' → σ'.length = σh.length → (∀ (j : Nat) v, (L2.wipe σh vs1)[j]? = some (some v) → σ'[j]? = some (some v)) → N H' →
          ∃ m, m < n ∧ ∃ j H', Inv (X.blk sc Hc scope ce fp) [] (L2.wipe σ (own.map (·.2))) H' s' ∧ tn j s'.heap ∧ (∀ b ∈ fp, H' b = none) ∧ W j m H' := fun {σ' s' H'} I' hl hk nx => by
        obtain ⟨m', hm, w'⟩ := hNn H' nx
        have pin' : ∀ b ∈ fp, ∀ o, sg.heap.get? b = some o → s'.heap.get? b = some o ∧ H' b = none := fun b hb o e => by
          have z := I'.pin (b, o) (List.mem_append_right _ (List.mem_append_right _ (mem_pinsAt hb e)))
          exact ⟨z.1, z.2.1⟩
        refine ⟨m', hm, j + 1, H', (I'.unpinned (pins := [])).weak (by rw [hl, ← L2.wipe_length σh (own.map (·.2)), hwh]) (fun j v e => ?_), T.keep _ _ _ stg fun b hb o e => (pin' b hb o e).1, fun b hb => ?_, w'⟩
        · rw [← hwh] at e
          obtain ⟨e1, e2⟩ := L2.wipe_some e
          refine hk j v ?_
          rw [L2.wipe_out fun z => e2 (hv j z)]
          exact e1
        · obtain ⟨o, e, _⟩ := T.obj _ _ stg b hb
          exact (pin' b hb o e).2
      cases b with
      | false =>
        rw [if_neg (by simp)] at qk ⊢
        exact fin Ik rfl (fun j v e => (L2.wipe_some e).1) qk
      | true =>
        rw [if_pos rfl] at qk ⊢
        exact pb _ sk σh Hk N _ _ Ik qk fun s' σ' H' I' hl hk nx => fin I' hl hk nx
  exact codeAny_compStart_list loop (T.self X.A 0 _ _ _ std loop)
theorem pe_lcN {elt t i : Expr} {ifs : List Expr} {cs : List Comprehension} {scope : Scope} {own : List (Str × Nat)} {vs1 : List Nat} {pos : Pos} {wi : TI} {g : TG} {tt : TT} {w : Addr → WL}
    (hc : X.calm = true) (hN : X.N.Nodup) (hi : PI X t i wi) (ok : BlkOk X.N X.env.scope scope own) (hv : ∀ a ∈ vs1, a ∈ own.map (·.2))
    (hg : ∀ (s : Shared) (H : Hp) (C : Addr) (cl : List (Str × Addr)) (fp : List Addr), PG (X.blk s H scope (compEnvC scope cl C X.env) fp) t g)
    (ht : ∀ (s : Shared) (H : Hp) (C : Addr) (cl : List (Str × Addr)) (fp : List Addr), PTs (X.blk s H scope (compEnvC scope cl C X.env) fp) ifs tt)
    (hf : ∀ x, foldedSetIterable i X.env x = pure x) (h1 : ∀ g, cs.head? = some g → g.is_async = 0 ∧ ∀ env x, foldedSetIterable g.iter env x = pure x)
    (hb : ∀ (s : Shared) (H : Hp) (C : Addr) (cl : List (Str × Addr)) (fp : List Addr) (D : Addr), BodyOk (X.blk s H scope (compEnvC scope cl C X.env) fp) elt (⟨t, i, ifs, 0⟩ :: cs) scope pos 1 vs1 D (w D)) :
    PE X (.ListComp elt (⟨t, i, ifs, 0⟩ :: cs) scope pos) (tLcN wi g tt w (own.map (·.2))) := by
  refine ⟨fun pins s σ H Q I h => ?_⟩
  rw [eval_ListComp]
  refine lcN_core hc hN I hi ok hv hg ht hf h1 hb h fun D C s' m H' I' q hn f => ⟨m, hn, fun h'' sb => ?_⟩
  exact ⟨.ref D, H', I'.turned (t' := s'.toks) (fun b o hb e => (sb.2 b hb).trans e) f.1 f.2.1 f.2.2.2.1 f.2.2.2.2.1 f.2.2.2.2.2, rfl, q⟩
/-- name = [..], the name a local -/
theorem ps_setLcN {n : Nat} {y : Str} {py : Pos} {elt t i : Expr} {ifs : List Expr} {cs : List Comprehension} {scope : Scope} {own : List (Str × Nat)} {vs1 : List Nat} {pos spos : Pos} {wi : TI} {g : TG} {tt : TT} {w : Addr → WL}
    (hc : X.calm = true) (hN : X.N.Nodup) (hy : X.N[n]? = some y) (hyl : X.env.scope.names.lookup y = some .local) (hsw : swapsWith (.ListComp elt (⟨t, i, ifs, 0⟩ :: cs) scope pos) (some (.Name y py)) spos.line X.env = pure true)
    (hi : PI X t i wi) (ok : BlkOk X.N X.env.scope scope own) (hv : ∀ a ∈ vs1, a ∈ own.map (·.2))
    (hg : ∀ (s : Shared) (H : Hp) (C : Addr) (cl : List (Str × Addr)) (fp : List Addr), PG (X.blk s H scope (compEnvC scope cl C X.env) fp) t g)
    (ht : ∀ (s : Shared) (H : Hp) (C : Addr) (cl : List (Str × Addr)) (fp : List Addr), PTs (X.blk s H scope (compEnvC scope cl C X.env) fp) ifs tt)
    (hf : ∀ x, foldedSetIterable i X.env x = pure x) (h1 : ∀ g, cs.head? = some g → g.is_async = 0 ∧ ∀ env x, foldedSetIterable g.iter env x = pure x)
    (hb : ∀ (s : Shared) (H : Hp) (C : Addr) (cl : List (Str × Addr)) (fp : List Addr) (D : Addr), BodyOk (X.blk s H scope (compEnvC scope cl C X.env) fp) elt (⟨t, i, ifs, 0⟩ :: cs) scope pos 1 vs1 D (w D)) :
    PS X (.Assign [.Name y py] (.ListComp elt (⟨t, i, ifs, 0⟩ :: cs) scope pos) spos) (tAsg (tLcN wi g tt w (own.map (·.2))) (gName n)) := by
  refine ⟨fun pins s σ H D I h => ?_⟩
  rw [exec_Assign_Name_used _ _ _ _ hsw]
  refine wpAny_bind (wpAny_standAt (wpAny_bind ?_))
  show wpAny _ X.A (do let _ ← comprehension (.ListComp elt (⟨t, i, ifs, 0⟩ :: cs) scope pos) scope X.env (firstIterPos (⟨t, i, ifs, 0⟩ :: cs) pos) (newList []) false (eval i X.env) (some (assign (.Name y py) X.env))) _ _ s
  replace h : tLcN wi g tt w (own.map (·.2)) σ H (fun x H1 => gName n x σ H1 D.nx) := h
  refine wpAny_bind (thn (lcN_core (Qf := fun _ s' => SP X pins D .next s') hc hN I hi ok hv hg ht hf h1 hb h fun L C s' m H' I' q hn f => ?_) fun _ s' hq => wpAny_pure (wpAny_pure hq))
  show wpAny _ _ (assign (.Name y py) X.env (.ref L)) _ _ _
  refine wpAny_assign_Name (store_ok2 (v := V.ref L) I' hN hy (.inl hyl) rfl (fun s2 I2 ⟨a, sb, ha⟩ => ?_) (.inr hyl))
  have ne : C ≠ a := ha.elim (fun z => by rw [z]; exact f.2.1) fun z e => f.2.2.2.2.1 y a z e.symm
  exact ⟨m, hn.sameBut sb ne, fun h3 sb3 => ⟨_, H', I2.turned (t' := s2.toks) (fun b o hb e => (sb3.2 b hb).trans e) f.1 f.2.1 f.2.2.2.1 f.2.2.2.2.1 f.2.2.2.2.2, q⟩⟩
end
end DL
namespace DL
open PySem PySem.Spec PyProof.Rows L2
/-! ### several clauses: by data -/
abbrev LF := List D → Cfg → LR
def goLi (tgt : D → Cfg → Option Cfg) (vs : List Nat) (ft : EF) (body : LF) : List D → LF
  | [], acc, c => .ok acc c
  | d :: ds, acc, c => match tgt d c with
    | none => .bad
    | some c1 => match ft c1 with
      | .ok _ (.bl false) c2 => goLi tgt vs ft body ds acc (c2.wipe vs)
      | .ok _ (.bl true) c2 => match body acc c2 with
        | .ok acc1 c3 => goLi tgt vs ft body ds acc1 (c3.wipe vs)
        | .bad => .bad
      | _ => .bad
/-- a clause behind the first one -/
def lCl (ga : AF) (tgt : D → Cfg → Option Cfg) (vs : List Nat) (ft : EF) (body : LF) : LF := fun acc c => match ga c with
  | .ok ds c1 => goLi tgt vs ft body ds acc (c1.wipe vs)
  | _ => .bad
/-- the element -/
def lEl (fe : EF) : LF := fun acc c => match fe c with
  | .ok .bo _ _ => .bad
  | .ok _ d c1 => if acc.length < big then .ok (acc ++ [d]) c1 else .bad
  | _ => .bad
def goLo (tgt : D → Cfg → Option Cfg) (vs : List Nat) (ft : EF) (body : LF) : List D → LF
  | [], acc, c => .ok acc c
  | d :: ds, acc, c => match tgt d (c.wipe vs) with
    | none => .bad
    | some c1 => match ft c1 with
      | .ok _ (.bl false) c2 => goLo tgt vs ft body ds acc (Cfg.mrg vs c c2)
      | .ok _ (.bl true) c2 => match body acc c2 with
        | .ok acc1 c3 => goLo tgt vs ft body ds acc1 (Cfg.mrg vs c c3)
        | .bad => .bad
      | _ => .bad
def evLcN (it : AF) (tgt : D → Cfg → Option Cfg) (vs : List Nat) (ft : EF) (body : LF) : EF := fun c => match it c with
  | .ok ds c1 => (goLo tgt vs ft body ds [] c1).toE
  | .exc x W => .exc x W
  | .bad => .bad
theorem wipe_eq {σ σ1 : List (Option V)} {vs : List Nat} (l : σ1.length = σ.length) (k : ∀ i : Nat, i ∉ vs → σ1[i]? = σ[i]?) : L2.wipe σ1 vs = L2.wipe σ vs := by
  apply List.ext_getElem?
  intro j
  by_cases hj : j ∈ vs
  · by_cases hl : j < σ.length
    · rw [DL.wipe_in hj (by rw [l]; exact hl), DL.wipe_in hj hl]
    · rw [List.getElem?_eq_none (by rw [DL.wipe_len, l]; omega), List.getElem?_eq_none (by rw [DL.wipe_len]; omega)]
  · rw [DL.wipe_out hj, DL.wipe_out hj]
    exact k j hj
def rdIx (A : Am) (f : AF) : TI := fun σ H R => ∃ B, rdI A B E0S f σ H R
section
variable {X : Cx} {A : Am} {B : Bs} {E : XS} {Hb H Hb1 H1 : Hp} {σ : List (Option V)} {c c1 : Cfg} {fa fb fc ft fe : EF} {f g : SF} {De : Ends} {ga gb : AF}
theorem pix {tg iter : Expr} (h : ∀ B, DI X A B E0S tg iter ga) : PI X tg iter (rdIx A ga) := ⟨fun pins s σ H R I ⟨B, q⟩ => (h B).run pins s σ H R I q⟩
/-- the reading of the clauses behind the first one: vs are the slots they may change -/
def RdL (A : Am) (vs : List Nat) (w : Addr → WL) (f : LF) : Prop := ∀ (B : Bs) (Hb H H0 : Hp) (σ : List (Option V)) (c c1 : Cfg) (P : Addr) (acc acc1 : List D) (xs : List V) (N : Hp → Prop),
  Sr A (B.prot P) Hb H σ c → H0 P = none → Kept A H0 H → H P = some (.lst xs) → RepL A Hb acc xs → ¬ A.dl P → NtN B.h0 P → f acc c = .ok acc1 c1 →
  (∀ (Hb1 H1 : Hp) (σ1 : List (Option V)) (xs1 : List V), Same Hb Hb1 → Kept A H0 H1 → Sr A (B.prot P) Hb1 H1 σ1 c1 → (σ1.length = σ.length ∧ ∀ i : Nat, i ∉ vs → σ1[i]? = σ[i]?) → H1 P = some (.lst xs1) → RepL A Hb1 acc1 xs1 → N H1) → w P σ H N
theorem rdl_el : RdL A [] (wEl (rdEx A fe)) (lEl fe) := by
  intro B Hb H H0 σ c c1 P acc acc1 xs N s hP kp hx hr hn h0 e q
  unfold lEl at e
  refine ⟨B.prot P, Hb, c, s, ?_⟩
  cases ef : fe c with
  | bad => rw [ef] at e; cases e
  | exc x c2 => rw [ef] at e; cases e
  | ok k d c2 =>
    rw [ef] at e
    have hk : k ≠ .bo := by intro z; rw [z] at e; cases e
    replace e : (if acc.length < big then LR.ok (acc ++ [d]) c2 else .bad) = .ok acc1 c1 := by
      cases k with
      | bo => exact absurd rfl hk
      | st => exact e
      | fr => exact e
    by_cases hb : acc.length < big
    · rw [if_pos hb] at e
      cases e
      intro v Hb2 H2 s2 t2 k2
      obtain ⟨Hb3, s3, e3, r3⟩ := RepK.keep s2 k2 hk
      have x2 : H2 P = some (.lst xs) := t2.k.eq _ _ hx hn (by intro _ z; cases z)
      exact ⟨xs, x2, by rw [← hr.len]; exact Nat.lt_of_lt_of_le hb (by decide), q Hb3 _ σ (xs ++ [v]) (t2.b.trans e3) ((kp.trans t2.k).updN hP) (s3.grow x2 hn h0) ⟨rfl, fun _ _ => rfl⟩ upd_same ((RepL.mono (t2.b.trans e3) _ _ hr).append (RepL.cons r3 RepL.nil))⟩
    · rw [if_neg hb] at e; cases e
theorem rdl_cl {gt : TG} {tgt : D → Cfg → Option Cfg} {js vs vs1 : List Nat} {w : Addr → WL} {body : LF} (hs : TgS A gt js tgt) (hj : ∀ j ∈ js, j ∈ vs) (hv : ∀ j ∈ vs1, j ∈ vs) (hb : RdL A vs1 w body) :
    RdL A vs (fun P => wCl (rdIx A ga) gt (rdTx A ft) vs (w P)) (lCl ga tgt vs ft body) := by
  intro B Hb H H0 σ c cE P acc accE xs N s hP kp hx hr hn h0 e q
  unfold lCl at e
  refine ⟨B.prot P, Hb, c, s, ?_⟩
  cases ei : ga c with
  | exc x W => rw [ei] at e; cases e
  | bad => rw [ei] at e; cases e
  | ok ds c1 =>
    rw [ei] at e
    intro J Hb0 Ha s0 t0 ok
    have xa : Ha P = some (.lst xs) := t0.k.eq _ _ hx hn (by intro _ z; cases z)
    refine ⟨fun i m H' => ∃ (Hb' : Hp) (c' : Cfg) (acc' : List D) (xs' : List V), Same Hb0 Hb' ∧ Sr A (B.prot P) Hb' H' (L2.wipe σ vs) c' ∧ i + m = ds.length ∧ H' P = some (.lst xs') ∧ RepL A Hb' acc' xs' ∧ Kept A H0 H' ∧ goLi tgt vs ft body (ds.drop i) acc' c' = .ok accE cE,
      ⟨ds.length, Hb0, c1.wipe vs, acc, xs, Same.refl _, s0.wiped vs, by omega, xa, RepL.mono t0.b _ _ hr, kp.trans t0.k, by simpa using e⟩, ?_⟩
    rintro i m H' ⟨Hb', c', acc', xs', e', s', hm, hx', hr', kp', q'⟩
    obtain ⟨k1, k2⟩ := ok i (B.prot P) Hb' H' _ c' e' s'
    by_cases hi : i < ds.length
    · have hd : ds[i]? = some ds[i] := List.getElem?_eq_getElem hi
      obtain ⟨g1, g2⟩ := k2 _ hd
      rw [List.drop_eq_getElem_cons hi] at q'
      refine .inr ⟨g1, fun H2 => ∃ (Hb2 : Hp) (c2 : Cfg) (acc2 : List D) (xs2 : List V), Same Hb0 Hb2 ∧ Sr A (B.prot P) Hb2 H2 (L2.wipe σ vs) c2 ∧ H2 P = some (.lst xs2) ∧ RepL A Hb2 acc2 xs2 ∧ Kept A H0 H2 ∧ goLi tgt vs ft body (ds.drop (i + 1)) acc2 c2 = .ok accE cE, ?_, ?_⟩
      · rintro H2 ⟨Hb2, c2, acc2, xs2, e2, s2, x2, r2, kp2, q2⟩
        exact ⟨m - 1, by omega, Hb2, c2, acc2, xs2, e2, s2, by omega, x2, r2, kp2, q2⟩
      · intro x H2 hy
        obtain ⟨Hb2, e2, kp2, s2, r2⟩ := g2 x H2 hy
        unfold goLi at q'
        cases et : tgt ds[i] c' with
        | none => rw [et] at q'; cases q'
        | some c2 =>
          rw [et] at q'
          dsimp only at q'
          refine hs (B.prot P) Hb2 H2 _ c' c2 _ x _ s2 r2 et fun σ3 s3 k3 => ?_
          have w3 : L2.wipe σ3 vs = L2.wipe σ vs := wipe_eq (k3.1.trans (DL.wipe_len σ vs)) fun i hi => (k3.2 i fun z => hi (hj i z)).trans (DL.wipe_out hi)
          refine ⟨w3, B.prot P, Hb2, c2, s3, ?_⟩
          have x2 : H2 P = some (.lst xs') := kp2.eq _ _ hx' hn (by intro _ z; cases z)
          cases ef : ft c2 with
          | bad => rw [ef] at q'; cases q'
          | exc x W => rw [ef] at q'; cases q'
          | ok k d1 c3 =>
            rw [ef] at q'
            cases d1 with
            | bl b =>
              refine ⟨b, rfl, fun Hb3 H3 s4 t4 => ?_⟩
              have x3 : H3 P = some (.lst xs') := t4.k.eq _ _ x2 hn (by intro _ z; cases z)
              cases b with
              | false =>
                have s5 := s4.wiped vs
                rw [w3] at s5
                exact ⟨Hb3, c3.wipe vs, acc', xs', (e'.trans e2).trans t4.b, s5, x3, RepL.mono (e2.trans t4.b) _ _ hr', (kp'.trans kp2).trans t4.k, q'⟩
              | true =>
                dsimp only at q'
                cases eb : body acc' c3 with
                | bad => rw [eb] at q'; cases q'
                | ok a4 c4 =>
                  rw [eb] at q'
                  dsimp only
                  rw [if_pos rfl]
                  refine hb B Hb3 H3 H0 σ3 c3 c4 P acc' a4 xs' _ s4 hP ((kp'.trans kp2).trans t4.k) x3 (RepL.mono (e2.trans t4.b) _ _ hr') hn h0 eb fun Hb5 H5 σ5 xs5 e5 kp5 s5 k5 x5 r5 => ?_
                  have s6 := s5.wiped vs
                  rw [wipe_eq k5.1 fun i hi => k5.2 i fun z => hi (hv i z), w3] at s6
                  exact ⟨Hb5, c4.wipe vs, a4, xs5, ((e'.trans e2).trans t4.b).trans e5, s6, x5, r5, kp5, q'⟩
            | _ => cases q'
    · have hd : ds.drop i = [] := List.drop_eq_nil_of_le (by omega)
      rw [hd] at q'
      cases q'
      exact .inl ⟨k1 (by omega), q Hb' H' _ xs' (t0.b.trans e') kp' s' ⟨DL.wipe_len σ vs, fun i hi => DL.wipe_out hi⟩ hx' hr'⟩
theorem rd_lcN {gt : TG} {tgt : D → Cfg → Option Cfg} {js vs vs1 : List Nat} {Q : VK} {w : Addr → WL} {body : LF} (hs : TgS A gt js tgt) (hj : ∀ j ∈ js, j ∈ vs) (hv : ∀ j ∈ vs1, j ∈ vs) (hb : RdL A vs1 w body) (s : Sr A B Hb H σ c) (q : EPost A B E Hb H σ Q (evLcN ga tgt vs ft body c)) :
    tLcN (rdI A B E ga) gt (rdTx A ft) w vs σ H Q := by
  refine ⟨Hb, c, s, ?_⟩
  unfold evLcN at q
  cases ei : ga c with
  | exc x W => rw [ei] at q; exact q
  | bad => rw [ei] at q; exact False.elim q
  | ok ds c1 =>
    rw [ei] at q
    intro J Hb0 H0 s0 t0 ok P hP
    have hn : ¬ A.dl P := s0.fin.hr.fresh hP
    have h0 : NtN B.h0 P := s0.fin.h0n hP
    have np : ¬ B.pr P := fun z => by
      obtain ⟨⟨o, z1, _⟩, _⟩ := s0.pr P z
      rw [hP] at z1; cases z1
    refine ⟨fun i m H' => ∃ (Hb' : Hp) (c' : Cfg) (acc : List D) (xs : List V), Same Hb0 Hb' ∧ Sr A (B.prot P) Hb' H' σ c' ∧ i + m = ds.length ∧ H' P = some (.lst xs) ∧ RepL A Hb' acc xs ∧ Kept A H0 H' ∧ EPost A B E Hb H σ Q (goLo tgt vs ft body (ds.drop i) acc c').toE,
      ⟨ds.length, Hb0, c1, [], [], Same.refl _, s0.prot hP, by omega, upd_same, RepL.nil, .of (same_upd hP), by simpa using q⟩, ?_⟩
    rintro i m H' ⟨Hb', c', acc, xs, e', s', hm, hx, hr, kp, q'⟩
    obtain ⟨k1, k2⟩ := ok i (B.prot P) Hb' H' σ c' e' s'
    by_cases hi : i < ds.length
    · have hd : ds[i]? = some ds[i] := List.getElem?_eq_getElem hi
      obtain ⟨g1, g2⟩ := k2 _ hd
      rw [List.drop_eq_getElem_cons hi] at q'
      refine .inr ⟨g1, fun H2 => ∃ (Hb2 : Hp) (c2 : Cfg) (acc : List D) (xs : List V), Same Hb0 Hb2 ∧ Sr A (B.prot P) Hb2 H2 σ c2 ∧ H2 P = some (.lst xs) ∧ RepL A Hb2 acc xs ∧ Kept A H0 H2 ∧ EPost A B E Hb H σ Q (goLo tgt vs ft body (ds.drop (i + 1)) acc c2).toE, ?_, ?_⟩
      · rintro H2 ⟨Hb2, c2, acc2, xs2, e2, s2, x2, r2, kp2, q2⟩
        exact ⟨m - 1, by omega, Hb2, c2, acc2, xs2, e2, s2, by omega, x2, r2, kp2, q2⟩
      · intro x H2 hy
        obtain ⟨Hb2, e2, kp2, s2, r2⟩ := g2 x H2 hy
        unfold goLo at q'
        cases et : tgt ds[i] (c'.wipe vs) with
        | none => rw [et] at q'; exact False.elim q'
        | some c2 =>
          rw [et] at q'
          dsimp only at q'
          refine hs (B.prot P) Hb2 H2 (L2.wipe σ vs) (c'.wipe vs) c2 _ x _ (s2.wiped vs) r2 et fun σ3 s3 k3 => ?_
          have l3 : σ3.length = σ.length := k3.1.trans (DL.wipe_len σ vs)
          have k3' : ∀ i : Nat, i ∉ vs → σ3[i]? = σ[i]? := fun i hi => (k3.2 i fun z => hi (hj i z)).trans (DL.wipe_out hi)
          refine ⟨wipe_eq l3 k3', B.prot P, Hb2, c2, s3, ?_⟩
          have x2 : H2 P = some (.lst xs) := kp2.eq _ _ hx hn (by intro _ z; cases z)
          cases ef : ft c2 with
          | bad => rw [ef] at q'; exact q'.elim
          | exc x W => rw [ef] at q'; exact q'.elim
          | ok k d1 c3 =>
            rw [ef] at q'
            cases d1 with
            | bl b =>
              refine ⟨b, rfl, fun Hb3 H3 s4 t4 => ?_⟩
              have x3 : H3 P = some (.lst xs) := t4.k.eq _ _ x2 hn (by intro _ z; cases z)
              cases b with
              | false => exact ⟨Hb3, Cfg.mrg vs c' c3, acc, xs, (e'.trans e2).trans t4.b, Sr.back s2 t4.b s4 k3' l3, x3, RepL.mono (e2.trans t4.b) _ _ hr, (kp.trans kp2).trans t4.k, q'⟩
              | true =>
                dsimp only at q'
                cases eb : body acc c3 with
                | bad => rw [eb] at q'; exact q'.elim
                | ok a4 c4 =>
                  rw [eb] at q'
                  dsimp only
                  rw [if_pos rfl]
                  refine hb B Hb3 H3 H0 σ3 c3 c4 P acc a4 xs _ s4 hP ((kp.trans kp2).trans t4.k) x3 (RepL.mono (e2.trans t4.b) _ _ hr) hn h0 eb fun Hb5 H5 σ5 xs5 e5 kp5 s5 k5 x5 r5 => ?_
                  exact ⟨Hb5, Cfg.mrg vs c' c4, a4, xs5, ((e'.trans e2).trans t4.b).trans e5, Sr.back s2 (t4.b.trans e5) s5 (fun i hi => (k5.2 i fun z => hi (hv i z)).trans (k3' i hi)) (k5.1.trans l3), x5, r5, kp5, q'⟩
            | _ => exact q'.elim
    · have hd : ds.drop i = [] := List.drop_eq_nil_of_le (by omega)
      rw [hd] at q'
      refine .inl ⟨k1 (by omega), q' _ Hb' H' s'.unprot ⟨t0.b.trans e', t0.k.trans kp⟩ ⟨P, ⟨_, rfl, hx, ⟨xs, rfl, hr⟩, (s'.pr P (.inr rfl)).2.1, hn, h0, np⟩, (s'.pr P (.inr rfl)).2.2⟩⟩
end
end DL
namespace DL
open PySem PySem.Spec PyProof.Rows L2
/-! ### several clauses: the rules of the walk -/
section
variable {X Y : Cx} {A : Am} {B : Bs} {E : XS} {fe ft : EF} {ga : AF} {elt : Expr} {gens : List Comprehension} {scope : Scope} {pos : Pos} {k : Nat}
structure DB (Y : Cx) (A : Am) (elt : Expr) (gens : List Comprehension) (scope : Scope) (pos : Pos) (k : Nat) (vs : List Nat) (w : Addr → WL) (body : LF) : Prop where
  ok : ∀ D, BodyOk Y elt gens scope pos k vs D (w D)
  rd : RdL A vs w body
theorem db_el (hx : Y.xe = fun _ _ => False) (he : ∀ B, DE Y A B E0S elt fe) (hk : gens[k]? = none) : DB Y A elt gens scope pos k [] (wEl (rdEx A fe)) (lEl fe) :=
  ⟨fun D => body_el hx (pex he) hk, rdl_el⟩
theorem db_cl {t i : Expr} {ifs : List Expr} {gt : TG} {tgt : D → Cfg → Option Cfg} {js vs vs1 : List Nat} {w : Addr → WL} {body : LF} (hx : Y.xe = fun _ _ => False) (hc : Y.calm = true) (hk : gens[k]? = some ⟨t, i, ifs, 0⟩)
    (h1 : ∀ g, gens[k + 1]? = some g → g.is_async = 0 ∧ ∀ x, foldedSetIterable g.iter Y.env x = pure x) (hi : ∀ B, DI Y A B E0S t i ga) (hg : PG Y t gt) (hs : TgS A gt js tgt) (hj : (js.all fun j => vs.contains j) = true)
    (ht : ∀ B, PTs Y ifs (rdT A B E0S ft)) (hv : (vs1.all fun j => vs.contains j) = true) (hb : DB Y A elt gens scope pos (k + 1) vs1 w body) :
    DB Y A elt gens scope pos k vs (fun P => wCl (rdIx A ga) gt (rdTx A ft) vs (w P)) (lCl ga tgt vs ft body) :=
  ⟨fun D => body_cl hx hc hk h1 (pix hi) hg (ptsx ht) (fun a h => by simpa using List.all_eq_true.mp hv a h) (hb.ok D), rdl_cl hs (fun a h => by simpa using List.all_eq_true.mp hj a h) (fun a h => by simpa using List.all_eq_true.mp hv a h) hb.rd⟩
theorem de_lcN {tg iter : Expr} {ifs : List Expr} {cs : List Comprehension} {own : List (Str × Nat)} {gt : TG} {js vs1 : List Nat} {tgt : D → Cfg → Option Cfg} {w : Addr → WL} {body : LF} (hc : X.calm = true) (hN : X.N.Nodup) (hi : DI X A B E tg iter ga) (ok : BlkOk X.N X.env.scope scope own)
    (hg : ∀ (s : Shared) (H : Hp) (C : Addr) (cl : List (Str × Addr)) (fp : List Addr), PG (X.blk s H scope (compEnvC scope cl C X.env) fp) tg gt) (hs : TgS A gt js tgt) (hj : (js.all fun j => (own.map (·.2)).contains j) = true)
    (ht : ∀ (s : Shared) (H : Hp) (C : Addr) (cl : List (Str × Addr)) (fp : List Addr) (B : Bs), PTs (X.blk s H scope (compEnvC scope cl C X.env) fp) ifs (rdT A B E0S ft))
    (h1 : ∀ g, cs.head? = some g → g.is_async = 0 ∧ ∀ env x, foldedSetIterable g.iter env x = pure x) (hv : (vs1.all fun j => (own.map (·.2)).contains j) = true)
    (hb : ∀ (s : Shared) (H : Hp) (C : Addr) (cl : List (Str × Addr)) (fp : List Addr), DB (X.blk s H scope (compEnvC scope cl C X.env) fp) A elt (⟨tg, iter, ifs, 0⟩ :: cs) scope pos 1 vs1 w body) (hz : ∀ x, foldedSetIterable iter X.env x = pure x := by intro _; rfl) :
    DE X A B E (.ListComp elt (⟨tg, iter, ifs, 0⟩ :: cs) scope pos) (evLcN ga tgt (own.map (·.2)) ft body) := by
  have P := pe_lcN hc hN hi ok (fun a h => by simpa using List.all_eq_true.mp hv a h) hg (fun s H C cl fp => ptsx (ht s H C cl fp)) hz h1 (fun s H C cl fp D => (hb s H C cl fp).ok D)
  exact PE.mk fun pins s σ H Q I ⟨Hb, c, sr, q⟩ => P.run pins s σ H Q I (rd_lcN hs (fun j h => by simpa using List.all_eq_true.mp hj j h) (fun a h => by simpa using List.all_eq_true.mp hv a h) (hb s H 0 [] []).rd sr q)
theorem ds_setLcN {n : Nat} {y : Str} {py : Pos} {tg iter : Expr} {ifs : List Expr} {cs : List Comprehension} {own : List (Str × Nat)} {spos : Pos} {gt : TG} {js vs1 : List Nat} {tgt : D → Cfg → Option Cfg} {w : Addr → WL} {body : LF} (hc : X.calm = true) (hN : X.N.Nodup) (hy : X.N[n]? = some y) (hyl : X.env.scope.names.lookup y = some .local)
    (hsw : swapsWith (.ListComp elt (⟨tg, iter, ifs, 0⟩ :: cs) scope pos) (some (.Name y py)) spos.line X.env = pure true) (hi : DI X A B E tg iter ga) (ok : BlkOk X.N X.env.scope scope own)
    (hg : ∀ (s : Shared) (H : Hp) (C : Addr) (cl : List (Str × Addr)) (fp : List Addr), PG (X.blk s H scope (compEnvC scope cl C X.env) fp) tg gt) (hs : TgS A gt js tgt) (hj : (js.all fun j => (own.map (·.2)).contains j) = true)
    (ht : ∀ (s : Shared) (H : Hp) (C : Addr) (cl : List (Str × Addr)) (fp : List Addr) (B : Bs), PTs (X.blk s H scope (compEnvC scope cl C X.env) fp) ifs (rdT A B E0S ft))
    (h1 : ∀ g, cs.head? = some g → g.is_async = 0 ∧ ∀ env x, foldedSetIterable g.iter env x = pure x) (hv : (vs1.all fun j => (own.map (·.2)).contains j) = true)
    (hb : ∀ (s : Shared) (H : Hp) (C : Addr) (cl : List (Str × Addr)) (fp : List Addr), DB (X.blk s H scope (compEnvC scope cl C X.env) fp) A elt (⟨tg, iter, ifs, 0⟩ :: cs) scope pos 1 vs1 w body) (hz : ∀ x, foldedSetIterable iter X.env x = pure x := by intro _; rfl) :
    DS X A B E (.Assign [.Name y py] (.ListComp elt (⟨tg, iter, ifs, 0⟩ :: cs) scope pos) spos) (sSet n (evLcN ga tgt (own.map (·.2)) ft body)) := by
  have P := ps_setLcN hc hN hy hyl hsw hi ok (fun a h => by simpa using List.all_eq_true.mp hv a h) hg (fun s H C cl fp => ptsx (ht s H C cl fp)) hz h1 (fun s H C cl fp D => (hb s H C cl fp).ok D)
  refine ds_set (PS.mk fun pins s σ H De I q => P.run pins s σ H De I ?_)
  obtain ⟨Hb, c, sr, q⟩ := q
  exact rd_lcN hs (fun j h => by simpa using List.all_eq_true.mp hj j h) (fun a h => by simpa using List.all_eq_true.mp hv a h) (hb s H 0 [] []).rd sr q
end
/-! ### the plain side -/
section
variable {fe ft : EF} {it ga : AF} {body : LF} {acc : List D} {c : Cfg} {r r1 : List (Option (Bool × D))} {W : Wd} {vs : List Nat} {tgt : D → Cfg → Option Cfg} {Q : QE} {X : QX} {N : List D → Cfg → Prop}
def wL (l : LR) (N : List D → Cfg → Prop) : Prop := ∃ a c, l = .ok a c ∧ N a c
theorem wL_el (h : wpE (fe c) (fun k d c1 => k ≠ .bo ∧ acc.length < 1000000 ∧ N (acc ++ [d]) c1) fun _ _ => False) : wL (lEl fe acc c) N := by
  unfold lEl
  cases e : fe c with
  | exc x W => rw [e] at h; exact h.h.elim
  | bad => rw [e] at h; exact h.h.elim
  | ok k d c1 =>
    rw [e] at h
    obtain ⟨h1, h2, h3⟩ := h
    refine ⟨_, _, ?_, h3⟩
    cases k with
    | bo => exact absurd rfl h1
    | st => exact if_pos h2
    | fr => exact if_pos h2
def liM (tgt : D → Cfg → Option Cfg) (vs : List Nat) (ft : EF) (body : LF) (acc : List D) (N : List D → Cfg → Prop) (ds : List D) (c : Cfg) : Prop := wL (goLi tgt vs ft body ds acc (c.wipe vs)) N
theorem wL_cl (h : wpA (ga c) (liM tgt vs ft body acc N) fun _ _ => False) : wL (lCl ga tgt vs ft body acc c) N := by
  unfold lCl
  cases e : ga c with
  | exc x W => rw [e] at h; exact h.h.elim
  | bad => rw [e] at h; exact h.h.elim
  | ok ds c1 => rw [e] at h; exact h.h
theorem li_eq {α : Type} (e : α → D) (t : α → Bool) (v : α → List D) {xs : List α} (hl : acc.length + ((xs.filter t).flatMap v).length ≤ 1000000) (hw : wipeR r vs = r1)
    (hs : ∀ x ∈ xs, ∀ acc : List D, (t x = true → acc.length + (v x).length ≤ 1000000) → wpC (tgt (e x) ⟨r1, W⟩) fun c1 => wpE (ft c1) (fun _ d c2 => d = .bl (t x) ∧ (t x = false → wipeR c2.r vs = r1 ∧ c2.W = W) ∧ (t x = true → wL (body acc c2) fun a c3 => a = acc ++ v x ∧ wipeR c3.r vs = r1 ∧ c3.W = W)) fun _ _ => False)
    (hq : N (acc ++ (xs.filter t).flatMap v) ⟨r1, W⟩) : liM tgt vs ft body acc N (xs.map e) ⟨r, W⟩ := by
  unfold liM Cfg.wipe
  dsimp only
  rw [hw]
  have wc : ∀ c2 : Cfg, wipeR c2.r vs = r1 ∧ c2.W = W → c2.wipe vs = ⟨r1, W⟩ := fun c2 h => by
    unfold Cfg.wipe
    rw [h.1, ← h.2]
  refine ⟨_, _, ?_, hq⟩
  clear hq hw
  induction xs generalizing acc with
  | nil => simp [goLi]
  | cons x xs ih =>
    obtain ⟨c1, e1, q⟩ := hs x List.mem_cons_self acc (fun ht => by rw [List.filter_cons_of_pos ht, List.flatMap_cons, List.length_append] at hl; omega)
    have hr := fun y hy => hs y (List.mem_cons_of_mem _ hy)
    rw [List.map_cons]
    unfold goLi
    rw [e1]
    dsimp only
    cases e2 : ft c1 with
    | exc x W => rw [e2] at q; exact q.h.elim
    | bad => rw [e2] at q; exact q.h.elim
    | ok k d c2 =>
      rw [e2] at q
      obtain ⟨rfl, q1, q2⟩ := q
      cases ht : t x with
      | false =>
        dsimp only
        rw [wc c2 (q1 ht), List.filter_cons_of_neg (by simp [ht])]
        rw [List.filter_cons_of_neg (by simp [ht])] at hl
        exact ih hl hr
      | true =>
        obtain ⟨a, c3, e3, rfl, q4⟩ := q2 ht
        dsimp only
        rw [e3]
        dsimp only
        rw [List.filter_cons_of_pos ht, List.flatMap_cons] at hl ⊢
        rw [wc c3 q4, ← List.append_assoc]
        exact ih (by rw [List.length_append] at hl ⊢; omega) hr
theorem li_all {α : Type} (e : α → D) (v : α → List D) {xs : List α} (hl : acc.length + (xs.flatMap v).length ≤ 1000000) (hw : wipeR r vs = r1)
    (hs : ∀ x ∈ xs, ∀ acc : List D, acc.length + (v x).length ≤ 1000000 → wpC (tgt (e x) ⟨r1, W⟩) fun c1 => wL (body acc c1) fun a c3 => a = acc ++ v x ∧ wipeR c3.r vs = r1 ∧ c3.W = W)
    (hq : N (acc ++ xs.flatMap v) ⟨r1, W⟩) : liM tgt vs (evC (.bl true)) body acc N (xs.map e) ⟨r, W⟩ := by
  have ef : xs.filter (fun _ => true) = xs := List.filter_eq_self.mpr fun _ _ => rfl
  refine li_eq e (fun _ => true) v (by rw [ef]; exact hl) hw (fun x hx acc ha => ?_) (by rw [ef]; exact hq)
  obtain ⟨c1, e1, q⟩ := hs x hx acc (ha rfl)
  exact ⟨c1, e1, rfl, (fun z => by cases z), fun _ => q⟩
def loM (tgt : D → Cfg → Option Cfg) (vs : List Nat) (ft : EF) (body : LF) (Q : QE) (ds : List D) (c : Cfg) : Prop := wL (goLo tgt vs ft body ds [] c) fun a c2 => Q .fr (.lst a) c2
theorem wE_lcN (h : wpA (it c) (loM tgt vs ft body Q) X) : wpE (evLcN it tgt vs ft body c) Q X := by
  unfold evLcN
  cases e : it c with
  | ok ds c1 =>
    rw [e] at h
    obtain ⟨a, c2, e2, q⟩ := h
    dsimp only
    rw [e2]
    exact ⟨q⟩
  | exc x W => rw [e] at h; exact h
  | bad => rw [e] at h; exact h
theorem lo_eq {α : Type} (e : α → D) (t : α → Bool) (v : α → List D) {xs : List α} (hl : ((xs.filter t).flatMap v).length ≤ 1000000) (hw : wipeR r vs = r1)
    (hs : ∀ x ∈ xs, ∀ acc : List D, (t x = true → acc.length + (v x).length ≤ 1000000) → wpC (tgt (e x) ⟨r1, W⟩) fun c1 => wpE (ft c1) (fun _ d c2 => d = .bl (t x) ∧ (t x = false → Cfg.mrg vs ⟨r, W⟩ c2 = ⟨r, W⟩) ∧ (t x = true → wL (body acc c2) fun a c3 => a = acc ++ v x ∧ Cfg.mrg vs ⟨r, W⟩ c3 = ⟨r, W⟩)) fun _ _ => False)
    (hq : Q .fr (.lst ((xs.filter t).flatMap v)) ⟨r, W⟩) : loM tgt vs ft body Q (xs.map e) ⟨r, W⟩ := by
  subst hw
  have key : ∀ (xs : List α) (acc : List D), acc.length + ((xs.filter t).flatMap v).length ≤ 1000000 → (∀ x ∈ xs, ∀ acc : List D, (t x = true → acc.length + (v x).length ≤ 1000000) → wpC (tgt (e x) ⟨wipeR r vs, W⟩) fun c1 => wpE (ft c1) (fun _ d c2 => d = .bl (t x) ∧ (t x = false → Cfg.mrg vs ⟨r, W⟩ c2 = ⟨r, W⟩) ∧ (t x = true → wL (body acc c2) fun a c3 => a = acc ++ v x ∧ Cfg.mrg vs ⟨r, W⟩ c3 = ⟨r, W⟩)) fun _ _ => False) →
      goLo tgt vs ft body (xs.map e) acc ⟨r, W⟩ = .ok (acc ++ (xs.filter t).flatMap v) ⟨r, W⟩ := by
    intro xs
    induction xs with
    | nil => intro acc _ _; simp [goLo]
    | cons x xs ih =>
      intro acc hl hs
      obtain ⟨c1, e1, q⟩ := hs x List.mem_cons_self acc (fun ht => by rw [List.filter_cons_of_pos ht, List.flatMap_cons, List.length_append] at hl; omega)
      have hr := fun y hy => hs y (List.mem_cons_of_mem _ hy)
      rw [List.map_cons]
      unfold goLo
      rw [show (Cfg.wipe ⟨r, W⟩ vs) = (⟨wipeR r vs, W⟩ : Cfg) from rfl, e1]
      dsimp only
      cases e2 : ft c1 with
      | exc x W => rw [e2] at q; exact q.h.elim
      | bad => rw [e2] at q; exact q.h.elim
      | ok k d c2 =>
        rw [e2] at q
        obtain ⟨rfl, q1, q2⟩ := q
        cases ht : t x with
        | false =>
          dsimp only
          rw [q1 ht, List.filter_cons_of_neg (by simp [ht])]
          rw [List.filter_cons_of_neg (by simp [ht])] at hl
          exact ih acc hl hr
        | true =>
          obtain ⟨a, c3, e3, rfl, q4⟩ := q2 ht
          dsimp only
          rw [e3]
          dsimp only
          rw [List.filter_cons_of_pos ht, List.flatMap_cons] at hl ⊢
          rw [q4, ← List.append_assoc]
          exact ih _ (by rw [List.length_append] at hl ⊢; omega) hr
  have := key xs [] (by simpa using hl) hs
  exact ⟨_, _, this, hq⟩
theorem lo_all {α : Type} (e : α → D) (v : α → List D) {xs : List α} (hl : (xs.flatMap v).length ≤ 1000000) (hw : wipeR r vs = r1)
    (hs : ∀ x ∈ xs, ∀ acc : List D, acc.length + (v x).length ≤ 1000000 → wpC (tgt (e x) ⟨r1, W⟩) fun c1 => wL (body acc c1) fun a c3 => a = acc ++ v x ∧ Cfg.mrg vs ⟨r, W⟩ c3 = ⟨r, W⟩)
    (hq : Q .fr (.lst (xs.flatMap v)) ⟨r, W⟩) : loM tgt vs (evC (.bl true)) body Q (xs.map e) ⟨r, W⟩ := by
  have ef : xs.filter (fun _ => true) = xs := List.filter_eq_self.mpr fun _ _ => rfl
  refine lo_eq e (fun _ => true) v (by rw [ef]; exact hl) hw (fun x hx acc ha => ?_) (by rw [ef]; exact hq)
  obtain ⟨c1, e1, q⟩ := hs x hx acc (ha rfl)
  exact ⟨c1, e1, rfl, (fun z => by cases z), fun _ => q⟩
end
end DL
namespace DL
open PySem PySem.Spec PyProof.Rows L2
/-! ### texts of data: their signs and their length -/
/-- a text of real signs, not too long -/
structure Tx (n : Nat) (x : Str) : Prop where
  ok : PyData.strOk x = true
  ln : x.length ≤ n
theorem tx_app {m n : Nat} {x y : Str} (h : Tx m x) (g : Tx n y) : Tx (m + n) (x ++ y) := by
  refine ⟨?_, ?_⟩
  · have a := h.ok
    have b := g.ok
    unfold PyData.strOk at a b ⊢
    show (x.cps ++ y.cps).all _ = true
    rw [Array.all_append, a, b]
    rfl
  · show (x.cps ++ y.cps).size ≤ _
    rw [Array.size_append]
    have a := h.ln
    have b := g.ln
    unfold Str.length at a b
    omega
theorem tx_mono {m n : Nat} {x : Str} (h : Tx m x) (hl : m ≤ n) : Tx n x := ⟨h.ok, Nat.le_trans h.ln hl⟩
theorem tx_of (s : String) : Tx s.toList.length (Str.ofString s) := by
  rw [Str.ofString_eq_toList]
  refine ⟨?_, ?_⟩
  · unfold PyData.strOk
    dsimp only
    rw [List.all_toArray, List.all_eq_true]
    intro n hn
    obtain ⟨c, _, rfl⟩ := List.mem_map.mp hn
    have := c.valid
    refine decide_eq_true ?_
    have h : c.toNat.isValidChar := c.valid
    unfold Nat.isValidChar at h
    omega
  · show (List.map Char.toNat s.toList).toArray.size ≤ _
    simp
theorem tx_lit {n : Nat} (s : String) (h : s.toList.length ≤ n) : Tx n (Str.ofString s) := tx_mono (tx_of s) h
theorem dig_len : ∀ (k m : Nat), m < 10 ^ (k + 1) → (Nat.toDigits 10 m).length ≤ k + 1
  | 0, m, h => by
    rw [Nat.toDigits_of_lt_base (by omega)]
    simp
  | k + 1, m, h => by
    by_cases hm : m < 10
    · rw [Nat.toDigits_of_lt_base hm]
      simp
    · have t : Nat.toDigits 10 (m / 10) ++ Nat.toDigits 10 (m % 10) = Nat.toDigits 10 (10 * (m / 10) + m % 10) := Nat.toDigits_append_toDigits (by decide) (by omega) (Nat.mod_lt m (by decide))
      rw [Nat.div_add_mod] at t
      rw [← t, List.length_append, Nat.toDigits_of_lt_base (Nat.mod_lt m (by decide))]
      have := dig_len k (m / 10) (by rw [Nat.pow_succ] at h; omega)
      simp
      omega
theorem tx_nat {k m : Nat} (h : m < 10 ^ (k + 1)) : Tx (k + 1) (Str.ofString (toString ((m : Nat) : Int))) := by
  refine ⟨(tx_of _).ok, ?_⟩
  show (Str.ofString (toString ((m : Nat) : Int))).cps.size ≤ _
  rw [← Array.length_toList, PySem.W.KIN.signs_num, List.length_map]
  exact dig_len k m h
/-- data that can be shown: their depth and their text -/
structure Sw (k n : Nat) (d : D) : Prop where
  gd : Gd k d
  sh : ∃ p, d.py = some p ∧ p.showable = true ∧ Tx n p.shown
theorem sw_mono {k n k1 n1 : Nat} {d : D} (h : Sw k n d) (hk : k ≤ k1) (hn : n ≤ n1) : Sw k1 n1 d := by
  obtain ⟨p, h1, h2, h3⟩ := h.sh
  exact ⟨gd_mono h.gd hk, p, h1, h2, tx_mono h3 hn⟩
theorem sw_nat {k m : Nat} (h : m < 10 ^ (k + 1)) (hk : k < 100) : Sw 0 (k + 1) (.int (m : Nat)) := by
  refine ⟨gd_int 0 _, _, py_int, ?_, ?_⟩
  · unfold PyData.showable
    refine decide_eq_true ?_
    rw [Int.natAbs_natCast]
    by_cases hm : m = 0
    · rw [hm]; decide
    · refine (Nat.log2_lt hm).mpr (Nat.lt_of_lt_of_le h ?_)
      refine Nat.le_trans (Nat.pow_le_pow_left (by decide : 10 ≤ 2 ^ 4) _) ?_
      rw [← Nat.pow_mul]
      exact Nat.pow_le_pow_right (by decide) (by omega)
  · unfold PyData.shown
    exact tx_nat h
theorem sw_non : Sw 0 4 .non := ⟨gd_non 0, _, py_non, by unfold PyData.showable; rfl, by unfold PyData.shown; exact tx_lit "None" (by decide)⟩
theorem sw_bl (b : Bool) : Sw 0 5 (.bl b) := ⟨gd_bl 0 b, _, py_bl, by unfold PyData.showable; rfl, by
  unfold PyData.shown
  cases b
  · exact tx_lit "False" (by decide)
  · exact tx_lit "True" (by decide)⟩
theorem swL {k n : Nat} : ∀ ds : List D, (∀ d ∈ ds, Sw k n d) → ∃ ps, pyL ds = some ps ∧ PyData.showableAll ps = true ∧ (∀ t ∈ PyData.shownAll ps, Tx n t) ∧ (PyData.shownAll ps).length = ds.length
  | [], _ => ⟨[], pyL_nil, by unfold PyData.showableAll; rfl, by unfold PyData.shownAll; exact fun t h => absurd h List.not_mem_nil, by unfold PyData.shownAll; rfl⟩
  | d :: ds, h => by
    obtain ⟨p, h1, h2, h3⟩ := (h d List.mem_cons_self).sh
    obtain ⟨ps, g1, g2, g3, g4⟩ := swL ds fun x hx => h x (List.mem_cons_of_mem _ hx)
    refine ⟨p :: ps, ?_, ?_, ?_, ?_⟩
    · rw [pyL_cons, h1]
      dsimp only
      rw [g1]
      rfl
    · unfold PyData.showableAll
      rw [h2, g2]
      rfl
    · unfold PyData.shownAll
      intro t ht
      rcases List.mem_cons.mp ht with rfl | ht
      · exact h3
      · exact g3 t ht
    · unfold PyData.shownAll
      rw [List.length_cons, List.length_cons, g4]
theorem tx_join {n : Nat} : ∀ ts : List Str, (∀ t ∈ ts, Tx n t) → Tx (ts.length * (n + 2)) (Str.join ", " ts)
  | [], _ => ⟨by unfold Str.join; decide +kernel, Nat.zero_le _⟩
  | [x], h => tx_mono (h x List.mem_cons_self) (by simp)
  | x :: y :: r, h => by
    have ih := tx_join (y :: r) fun t ht => h t (List.mem_cons_of_mem _ ht)
    have := tx_app (tx_app (h x List.mem_cons_self) (tx_lit (n := 2) ", " (by decide))) ih
    refine tx_mono this ?_
    simp only [List.length_cons, Nat.add_mul]
    omega
theorem tx_from {n : Nat} : ∀ (ts : List Str) (k m : Nat) (acc : Str), (∀ t ∈ ts, Tx n t) → Tx m acc → Tx (m + ts.length * (n + 2)) (textFrom k acc ts)
  | [], k, m, acc, _, ha => tx_mono ha (by simp)
  | t :: ts, k, m, acc, h, ha => by
    have e : Tx 2 (Str.ofString (if k > 0 then ", " else "")) := by
      split
      · exact tx_lit (n := 2) ", " (by decide)
      · exact tx_lit "" (by decide)
    have := tx_from ts (k + 1) (m + 2 + n) _ (fun x hx => h x (List.mem_cons_of_mem _ hx)) (tx_app (tx_app ha e) (h t List.mem_cons_self))
    refine tx_mono this ?_
    simp only [List.length_cons, Nat.add_mul]
    omega
theorem sw_tup {k n : Nat} {ds : List D} (h : ∀ d ∈ ds, Sw k n d) : Sw (k + 1) (ds.length * (n + 2) + 3) (.tup ds) := by
  obtain ⟨ps, h1, h2, h3, h4⟩ := swL ds h
  refine ⟨gd_tup fun d hd => (h d hd).gd, .tuple ps, by rw [py_tup, h1]; rfl, by unfold PyData.showable; exact h2, ?_⟩
  unfold PyData.shown tupleText
  have e : Tx 2 (Str.ofString (if (PyData.shownAll ps).length == 1 then ",)" else ")")) := by
    split
    · exact tx_lit (n := 2) ",)" (by decide)
    · exact tx_lit ")" (by decide)
  have z0 : Tx 1 (Str.ofString "(") := tx_lit "(" (by decide)
  have z1 : Tx (ds.length * (n + 2)) (Str.join ", " (PyData.shownAll ps)) := by
    have := tx_join _ h3
    rw [h4] at this
    exact this
  exact tx_mono (m := 1 + ds.length * (n + 2) + 2) (tx_app (tx_app z0 z1) e) (by omega)
theorem sw_lst {k n : Nat} {ds : List D} (h : ∀ d ∈ ds, Sw k n d) : Sw (k + 1) (ds.length * (n + 2) + 3) (.lst ds) := by
  obtain ⟨ps, h1, h2, h3, h4⟩ := swL ds h
  refine ⟨gd_lst fun d hd => (h d hd).gd, .list ps, by rw [py_lst, h1]; rfl, by unfold PyData.showable; exact h2, ?_⟩
  unfold PyData.shown listText
  have := tx_app (tx_from _ 0 1 _ h3 (tx_lit (n := 1) "[" (by decide))) (tx_lit (n := 1) "]" (by decide))
  rw [h4] at this
  exact tx_mono this (by omega)
theorem eqD_str {n : Nat} {x : Str} (h : Tx n x) : eqD (.str x) (.str x) = some true := by
  unfold eqD
  rw [show D.py (.str x) = some (.str x) from by unfold D.py; rfl]
  have : SeqAt.shaped (.str x) = true := by simp [SeqAt.shaped, PyData.canLay0, PyData.depth, h.ok]
  dsimp only
  rw [this]
  simp [PyData.eqv]
/-- what is shown is shown alike -/
theorem sw_rep {k n : Nat} {d : D} (h : Sw k n d) (hk : k ≤ 64) (hn : n ≤ 1000000) : ∃ x : Str, gRep d = some (.st, .str x) ∧ gNe (.str x) (.str x) = some (.st, .bl false) ∧ gEq (.str x) (.str x) = some (.st, .bl true) := by
  obtain ⟨p, h1, h2, h3⟩ := h.sh
  obtain ⟨q, g1, g2, g3⟩ := h.gd
  rw [h1] at g1
  cases g1
  refine ⟨p.shown, ?_, ?_, ?_⟩
  · unfold gRep
    rw [h1]
    dsimp only
    rw [if_pos (repOk_iff.mpr ⟨h2, PyData.hasDict_of_canLay p g2, by omega, Nat.le_trans h3.ln hn⟩)]
  · unfold gNe; rw [eqD_str h3]; rfl
  · unfold gEq; rw [eqD_str h3]; rfl
end DL
namespace DL
open PySem PySem.Spec PyProof.Rows L2
/-! ### several clauses, the slots told by an invariant -/
section
variable {fe ft : EF} {it ga : AF} {body : LF} {acc : List D} {c : Cfg} {r r1 : List (Option (Bool × D))} {W : Wd} {vs : List Nat} {tgt : D → Cfg → Option Cfg} {Q : QE} {X : QX} {N : List D → Cfg → Prop}
theorem li_use {α : Type} (e : α → D) (t : α → Bool) (v : α → List D) (I : Cfg → Prop) {xs : List α} (hl : acc.length + ((xs.filter t).flatMap v).length ≤ 1000000) (h0 : I (c.wipe vs))
    (hs : ∀ x ∈ xs, ∀ (acc : List D) (c : Cfg), I c → (t x = true → acc.length + (v x).length ≤ 1000000) → wpC (tgt (e x) c) fun c1 => wpE (ft c1) (fun _ d c2 => d = .bl (t x) ∧ (t x = false → I (c2.wipe vs)) ∧ (t x = true → wL (body acc c2) fun a c3 => a = acc ++ v x ∧ I (c3.wipe vs))) fun _ _ => False)
    (hq : ∀ c2, I c2 → N (acc ++ (xs.filter t).flatMap v) c2) : liM tgt vs ft body acc N (xs.map e) c := by
  unfold liM
  suffices ∃ c2, goLi tgt vs ft body (xs.map e) acc (c.wipe vs) = .ok (acc ++ (xs.filter t).flatMap v) c2 ∧ I c2 by
    obtain ⟨c2, h1, h2⟩ := this
    exact ⟨_, c2, h1, hq c2 h2⟩
  clear hq
  generalize c.wipe vs = c at h0 ⊢
  induction xs generalizing acc c with
  | nil => exact ⟨c, by simp [goLi], h0⟩
  | cons x xs ih =>
    obtain ⟨c1, e1, q⟩ := hs x List.mem_cons_self acc c h0 (fun ht => by rw [List.filter_cons_of_pos ht, List.flatMap_cons, List.length_append] at hl; omega)
    have hr := fun y hy => hs y (List.mem_cons_of_mem _ hy)
    rw [List.map_cons]
    unfold goLi
    rw [e1]
    dsimp only
    cases e2 : ft c1 with
    | exc x W => rw [e2] at q; exact q.h.elim
    | bad => rw [e2] at q; exact q.h.elim
    | ok k d c2 =>
      rw [e2] at q
      obtain ⟨rfl, q1, q2⟩ := q
      cases ht : t x with
      | false =>
        dsimp only
        rw [List.filter_cons_of_neg (by simp [ht])] at hl ⊢
        exact ih hl hr _ (q1 ht)
      | true =>
        obtain ⟨a, c3, e3, rfl, q4⟩ := q2 ht
        dsimp only
        rw [e3]
        dsimp only
        rw [List.filter_cons_of_pos ht, List.flatMap_cons] at hl ⊢
        rw [← List.append_assoc]
        exact ih (by rw [List.length_append] at hl ⊢; omega) hr _ q4
theorem li_un {α : Type} (e : α → D) (v : α → List D) (I : Cfg → Prop) {xs : List α} (hl : acc.length + (xs.flatMap v).length ≤ 1000000) (h0 : I (c.wipe vs))
    (hs : ∀ x ∈ xs, ∀ (acc : List D) (c : Cfg), I c → acc.length + (v x).length ≤ 1000000 → wpC (tgt (e x) c) fun c1 => wL (body acc c1) fun a c3 => a = acc ++ v x ∧ I (c3.wipe vs))
    (hq : ∀ c2, I c2 → N (acc ++ xs.flatMap v) c2) : liM tgt vs (evC (.bl true)) body acc N (xs.map e) c := by
  have ef : xs.filter (fun _ => true) = xs := List.filter_eq_self.mpr fun _ _ => rfl
  refine li_use e (fun _ => true) v I (by rw [ef]; exact hl) h0 (fun x hx acc c hc ha => ?_) (by rw [ef]; exact hq)
  obtain ⟨c1, e1, q⟩ := hs x hx acc c hc (ha rfl)
  exact ⟨c1, e1, rfl, (fun z => by cases z), fun _ => q⟩
theorem lo_use {α : Type} (e : α → D) (t : α → Bool) (v : α → List D) (I : Cfg → Prop) {xs : List α} (hl : ((xs.filter t).flatMap v).length ≤ 1000000) (h0 : I c)
    (hs : ∀ x ∈ xs, ∀ (acc : List D) (c : Cfg), I c → (t x = true → acc.length + (v x).length ≤ 1000000) → wpC (tgt (e x) (c.wipe vs)) fun c1 => wpE (ft c1) (fun _ d c2 => d = .bl (t x) ∧ (t x = false → I (Cfg.mrg vs c c2)) ∧ (t x = true → wL (body acc c2) fun a c3 => a = acc ++ v x ∧ I (Cfg.mrg vs c c3))) fun _ _ => False)
    (hq : ∀ c2, I c2 → Q .fr (.lst ((xs.filter t).flatMap v)) c2) : loM tgt vs ft body Q (xs.map e) c := by
  have key : ∀ (xs : List α) (acc : List D) (c : Cfg), acc.length + ((xs.filter t).flatMap v).length ≤ 1000000 → I c → (∀ x ∈ xs, ∀ (acc : List D) (c : Cfg), I c → (t x = true → acc.length + (v x).length ≤ 1000000) → wpC (tgt (e x) (c.wipe vs)) fun c1 => wpE (ft c1) (fun _ d c2 => d = .bl (t x) ∧ (t x = false → I (Cfg.mrg vs c c2)) ∧ (t x = true → wL (body acc c2) fun a c3 => a = acc ++ v x ∧ I (Cfg.mrg vs c c3))) fun _ _ => False) →
      ∃ c2, goLo tgt vs ft body (xs.map e) acc c = .ok (acc ++ (xs.filter t).flatMap v) c2 ∧ I c2 := by
    intro xs
    induction xs with
    | nil => intro acc c _ h _; exact ⟨c, by simp [goLo], h⟩
    | cons x xs ih =>
      intro acc c hl h0 hs
      obtain ⟨c1, e1, q⟩ := hs x List.mem_cons_self acc c h0 (fun ht => by rw [List.filter_cons_of_pos ht, List.flatMap_cons, List.length_append] at hl; omega)
      have hr := fun y hy => hs y (List.mem_cons_of_mem _ hy)
      rw [List.map_cons]
      unfold goLo
      rw [e1]
      dsimp only
      cases e2 : ft c1 with
      | exc x W => rw [e2] at q; exact q.h.elim
      | bad => rw [e2] at q; exact q.h.elim
      | ok k d c2 =>
        rw [e2] at q
        obtain ⟨rfl, q1, q2⟩ := q
        cases ht : t x with
        | false =>
          dsimp only
          rw [List.filter_cons_of_neg (by simp [ht])] at hl ⊢
          exact ih acc _ hl (q1 ht) hr
        | true =>
          obtain ⟨a, c3, e3, rfl, q4⟩ := q2 ht
          dsimp only
          rw [e3]
          dsimp only
          rw [List.filter_cons_of_pos ht, List.flatMap_cons] at hl ⊢
          rw [← List.append_assoc]
          exact ih _ _ (by rw [List.length_append] at hl ⊢; omega) q4 hr
  obtain ⟨c2, h1, h2⟩ := key xs [] c (by simpa using hl) h0 hs
  exact ⟨_, _, h1, hq c2 h2⟩
theorem lo_un {α : Type} (e : α → D) (v : α → List D) (I : Cfg → Prop) {xs : List α} (hl : (xs.flatMap v).length ≤ 1000000) (h0 : I c)
    (hs : ∀ x ∈ xs, ∀ (acc : List D) (c : Cfg), I c → acc.length + (v x).length ≤ 1000000 → wpC (tgt (e x) (c.wipe vs)) fun c1 => wL (body acc c1) fun a c3 => a = acc ++ v x ∧ I (Cfg.mrg vs c c3))
    (hq : ∀ c2, I c2 → Q .fr (.lst (xs.flatMap v)) c2) : loM tgt vs (evC (.bl true)) body Q (xs.map e) c := by
  have ef : xs.filter (fun _ => true) = xs := List.filter_eq_self.mpr fun _ _ => rfl
  refine lo_use e (fun _ => true) v I (by rw [ef]; exact hl) h0 (fun x hx acc c hc ha => ?_) (by rw [ef]; exact hq)
  obtain ⟨c1, e1, q⟩ := hs x hx acc c hc (ha rfl)
  exact ⟨c1, e1, rfl, (fun z => by cases z), fun _ => q⟩
end
/-- a state, its walked slots forgotten -/
theorem wipe_is {r r1 : List (Option (Bool × D))} {W : Wd} {vs : List Nat} (h : wipeR r vs = r1) : Cfg.wipe ⟨r, W⟩ vs = ⟨r1, W⟩ := by
  subst h
  rfl
end DL
namespace DL
open PySem PySem.Spec PyProof.Rows L2
/-! ### min and max of a tuple of ints -/
section
open PySem.Calls PyProof.V
variable {prog : Program} {w : World} {A : Around} {E : Value → Shared → Prop} {s : Shared} {l : Addr} {xs : Array (Int × Tok)} {Q : Value → Shared → Prop}
theorem old_is {b : Addr} {o : Obj} (h : (s.heap).get? b = some o) : b ∉ [s.heap.objs.size] :=
  fun z => absurd (List.mem_singleton.mp z ▸ Heap.lt_size h) (Nat.lt_irrefl _)
theorem tup_in {it : Addr} (ht : s.heap.IsTuple l (intItems xs)) : ∀ b ∈ [s.heap.objs.size, l], b < (s.heap.push { cls := .type "tuple_iterator", data := .fields #[.ref l, .int 0 0] }).objs.size := fun b hb => by
  obtain ⟨o, ho, _⟩ := ht
  rcases List.mem_cons.mp hb with rfl | hb
  · exact Heap.lt_size (Heap.get?_push_size _ rfl)
  · obtain rfl := List.mem_singleton.mp hb
    exact Heap.lt_size (Heap.get?_push_of_some _ ho)
theorem min_intTup (hh : A.handled = none) (ht : s.heap.IsTuple l (intItems xs)) (hne : 0 < xs.size)
    (h : ∀ v h' tk, (intItems xs)[argBest (fun i j => decide (numAt xs i < numAt xs j)) (xs.size - 1)]? = some v → (∀ b o, s.heap.get? b = some o → h'.get? b = some o) → Q v { s with heap := h', toks := tk }) :
    wpAny (model prog w) A (call (.builtin "min") [.ref l]) Q E s := by
  have hn : l ≠ s.heap.objs.size := by
    obtain ⟨o, ho, _⟩ := ht
    exact Nat.ne_of_lt (Heap.lt_size ho)
  refine call_min_walk (wpAny_pyIter_tuple ht ?_)
  exact ⟨_, _, _, _, _, _, _, rfl, Walks.tuple (A := A.in1) hh _ l hn (intItems xs), ⟨⟨_, Heap.get?_push_size _ rfl, rfl, rfl⟩, ht.at fun o e => Heap.get?_push_of_some _ e⟩, tup_in (it := l) ht, by simpa [intItems] using hne, CmpOf.ints_lt (numAt xs) (fun _ _ => intItems_at), fun v h' tk hP hk => h v h' tk (by simpa [intItems] using hP) fun b o e => hk b o (old_is e) (Heap.get?_push_of_some _ e)⟩
theorem max_intTup (hh : A.handled = none) (ht : s.heap.IsTuple l (intItems xs)) (hne : 0 < xs.size)
    (h : ∀ v h' tk, (intItems xs)[argBest (fun i j => decide (numAt xs i > numAt xs j)) (xs.size - 1)]? = some v → (∀ b o, s.heap.get? b = some o → h'.get? b = some o) → Q v { s with heap := h', toks := tk }) :
    wpAny (model prog w) A (call (.builtin "max") [.ref l]) Q E s := by
  have hn : l ≠ s.heap.objs.size := by
    obtain ⟨o, ho, _⟩ := ht
    exact Nat.ne_of_lt (Heap.lt_size ho)
  refine call_max_walk (wpAny_pyIter_tuple ht ?_)
  exact ⟨_, _, _, _, _, _, _, rfl, Walks.tuple (A := A.in1) hh _ l hn (intItems xs), ⟨⟨_, Heap.get?_push_size _ rfl, rfl, rfl⟩, ht.at fun o e => Heap.get?_push_of_some _ e⟩, tup_in (it := l) ht, by simpa [intItems] using hne, CmpOf.ints_gt (numAt xs) (fun _ _ => intItems_at), fun v h' tk hP hk => h v h' tk (by simpa [intItems] using hP) fun b o e => hk b o (old_is e) (Heap.get?_push_of_some _ e)⟩
end
section
variable {X : Cx} {A : Am} {B : Bs} {Hb H : Hp} {σ : List (Option V)} {c : Cfg}
def rMinT : List V → Hp → VK → Prop := fun us H Q => ∃ (a : Addr) (ns : List Int), us = [V.ref a] ∧ H a = some (.tup (ns.map V.int)) ∧ 0 < ns.length ∧ ∀ m, m ∈ ns → (∀ y, y ∈ ns → m ≤ y) → Q (.int m) H
def rMaxT : List V → Hp → VK → Prop := fun us H Q => ∃ (a : Addr) (ns : List Int), us = [V.ref a] ∧ H a = some (.tup (ns.map V.int)) ∧ 0 < ns.length ∧ ∀ m, m ∈ ns → (∀ y, y ∈ ns → y ≤ m) → Q (.int m) H
theorem cr_minT (hc : X.calm = true) : CallR X (.builtin "min") rMinT := by
  intro pins s σ H us vs Q I r h
  obtain ⟨a, ns, rfl, ha, hne, q⟩ := h
  obtain ⟨u, rfl, ru⟩ := r.one
  obtain rfl : u = Value.ref a := ru
  obtain ⟨hz, its, rv, ht⟩ := I.hok a _ ha
  replace ht : s.heap.IsTuple a its.toArray := ht
  have hi := rv.ints
  obtain ⟨xs, e⟩ := hi.allInts.items
  have hn : numsOf (intItems xs).toList = ns := by rw [← e]; exact hi.numsOf
  rw [nums_intItems] at hn
  subst hn
  rw [e] at ht
  refine min_intTup (I.ok.hd hc) ht (by simpa using hne) fun v h' tk hv hk => ?_
  obtain ⟨t, rfl⟩ := intItems_at hv
  obtain ⟨g1, g2⟩ := argBest_lt (numAt xs) (xs.size - 1)
  refine ⟨.int _, H, I.kept hk, ⟨t, rfl⟩, q _ ?_ fun y hy => ?_⟩
  · rw [numAt_eq]; exact PySem.getD_mem (by rw [List.length_map, Array.length_toList]; have : 0 < xs.size := by simpa using hne
                                            omega)
  · obtain ⟨j, hj, rfl⟩ := mem_getD hy
    rw [List.length_map, Array.length_toList] at hj
    rw [← numAt_eq]; exact g2 j (by omega)
theorem cr_maxT (hc : X.calm = true) : CallR X (.builtin "max") rMaxT := by
  intro pins s σ H us vs Q I r h
  obtain ⟨a, ns, rfl, ha, hne, q⟩ := h
  obtain ⟨u, rfl, ru⟩ := r.one
  obtain rfl : u = Value.ref a := ru
  obtain ⟨hz, its, rv, ht⟩ := I.hok a _ ha
  replace ht : s.heap.IsTuple a its.toArray := ht
  have hi := rv.ints
  obtain ⟨xs, e⟩ := hi.allInts.items
  have hn : numsOf (intItems xs).toList = ns := by rw [← e]; exact hi.numsOf
  rw [nums_intItems] at hn
  subst hn
  rw [e] at ht
  refine max_intTup (I.ok.hd hc) ht (by simpa using hne) fun v h' tk hv hk => ?_
  obtain ⟨t, rfl⟩ := intItems_at hv
  obtain ⟨g1, g2⟩ := argBest_gt (numAt xs) (xs.size - 1)
  refine ⟨.int _, H, I.kept hk, ⟨t, rfl⟩, q _ ?_ fun y hy => ?_⟩
  · rw [numAt_eq]; exact PySem.getD_mem (by rw [List.length_map, Array.length_toList]; have : 0 < xs.size := by simpa using hne
                                            omega)
  · obtain ⟨j, hj, rfl⟩ := mem_getD hy
    rw [List.length_map, Array.length_toList] at hj
    rw [← numAt_eq]; exact g2 j (by omega)
def gMinT := gOnT fun ns => match ns with | [] => none | n :: ns => some (.st, .int (minI n ns))
def gMaxT := gOnT fun ns => match ns with | [] => none | n :: ns => some (.st, .int (maxI n ns))
theorem cd_minT (hc : X.calm = true) : CaD1 X A (.builtin "min") gMinT := by
  refine ⟨_, cr_minT hc, fun B Hb H σ c da x k d Q s hx e q => ?_⟩
  obtain ⟨ns, rfl, e1⟩ := gOnT_inv e
  cases ns with
  | nil => cases e1
  | cons n ns =>
    cases e1
    obtain ⟨a, rfl, h1⟩ := oT s hx
    refine ⟨a, n :: ns, rfl, h1, by simp, fun m hm hy => ?_⟩
    have sp := minI_spec ns n
    have : m = minI n ns := Int.le_antisymm (hy _ sp.1) (sp.2 m hm)
    subst this
    exact q _ Hb H s .refl rk_int
theorem cd_maxT (hc : X.calm = true) : CaD1 X A (.builtin "max") gMaxT := by
  refine ⟨_, cr_maxT hc, fun B Hb H σ c da x k d Q s hx e q => ?_⟩
  obtain ⟨ns, rfl, e1⟩ := gOnT_inv e
  cases ns with
  | nil => cases e1
  | cons n ns =>
    cases e1
    obtain ⟨a, rfl, h1⟩ := oT s hx
    refine ⟨a, n :: ns, rfl, h1, by simp, fun m hm hy => ?_⟩
    have sp := maxI_spec ns n
    have : m = maxI n ns := Int.le_antisymm (sp.2 m hm) (hy _ sp.1)
    subst this
    exact q _ Hb H s .refl rk_int
def gMinA : D → Option (Kd × D) := fun a => (gMin a).orElse fun _ => gMinT a
def gMaxA : D → Option (Kd × D) := fun a => (gMax a).orElse fun _ => gMaxT a
theorem cd_minA (hc : X.calm = true) : CaD1 X A (.builtin "min") gMinA := (cd_min hc).or (cd_minT hc)
theorem cd_maxA (hc : X.calm = true) : CaD1 X A (.builtin "max") gMaxA := (cd_max hc).or (cd_maxT hc)
theorem gMinA_2 (a b : Int) : gMinA (.tup [.int a, .int b]) = some (.st, .int (if b < a then b else a)) := rfl
theorem gMaxA_2 (a b : Int) : gMaxA (.tup [.int a, .int b]) = some (.st, .int (if a < b then b else a)) := rfl
end
end DL
/-! zip of two sequences, each a list (true) or a tuple (false) -/
namespace DL
open PySem PySem.Spec PyProof.Rows L2
def SqB (K : PySem.W.Frag) (H : Hp) (k : Bool) (a : Addr) (xs : List V) : Prop := match k with
  | true => SqL K H a xs
  | false => SqT K H a xs
def HeB (h : Heap) (k : Bool) (a : Addr) (its : Array Value) : Prop := match k with
  | true => h.IsList a its
  | false => h.IsTuple a its
def HiB (h : Heap) (k : Bool) (it l : Addr) (i : Nat) : Prop := match k with
  | true => h.IsListIter it l i
  | false => h.IsTupleIter it l i
def obB (k : Bool) (l : Addr) : Obj := match k with
  | true => { cls := .type "list_iterator", data := .fields #[.ref l, .int 0 0] }
  | false => { cls := .type "tuple_iterator", data := .fields #[.ref l, .int 0 0] }
section
variable {X : Cx} {pins : List (Addr × Obj)} {σ : L2.St} {H : Hp} {s : Shared} {prog : Program} {w : World} {A : Around} {k : Bool} {a : Addr} {xs ys : List V}
theorem SqB.he (I : Inv X pins σ H s) (q : SqB X.K H k a xs) : ∃ its : List Value, Vals xs its ∧ HeB s.heap k a its.toArray := by
  cases k with
  | true => obtain ⟨its, rv, p, _⟩ := I.list q; exact ⟨its, rv, p.isList⟩
  | false => obtain ⟨its, rv, p, _⟩ := I.tuple q; exact ⟨its, rv, show s.heap.IsTuple a its.toArray from p⟩
theorem SqB.inj (I : Inv X pins σ H s) (q : SqB X.K H k a xs) (q' : SqB X.K H k a ys) : xs = ys := by
  cases k with
  | true => exact I.list_inj q q'
  | false => exact I.tuple_inj q q'
theorem HeB.lt {h : Heap} {its : Array Value} (q : HeB h k a its) : a < h.objs.size := by
  cases k with
  | true => obtain ⟨_, e, _⟩ := q; exact Heap.lt_size e
  | false => obtain ⟨_, e, _⟩ := q; exact Heap.lt_size e
theorem HiB.look {h : Heap} {it l : Addr} {i : Nat} (q : HiB h k it l i) : ∃ o, h.get? it = some o ∧ ∀ v, o.data ≠ .cell v := by
  cases k with
  | true => obtain ⟨o, e, _, d⟩ := q; exact ⟨o, e, fun v q => by rw [d] at q; cases q⟩
  | false => obtain ⟨o, e, _, d⟩ := q; exact ⟨o, e, fun v q => by rw [d] at q; cases q⟩
theorem HiB.of {h h' : Heap} {it l : Addr} {i : Nat} (q : HiB h k it l i) (e : ∀ o, h.get? it = some o → h'.get? it = some o) : HiB h' k it l i := by
  cases k with
  | true => exact Heap.IsListIter.at q e
  | false => exact Heap.IsTupleIter.at q e
theorem HiB.new {h : Heap} {it l : Addr} (e : h.get? it = some (obB k l)) : HiB h k it l 0 := by
  cases k with
  | true => exact ⟨_, e, rfl, rfl⟩
  | false => exact ⟨_, e, rfl, rfl⟩
theorem draws_B (hh : A.handled = none) (it l : Addr) (hne : l ≠ it) (its : Array Value) :
    Draws prog w A it [it, l] its.size (fun i v => its[i]? = some v) (fun i h => HiB h k it l i ∧ HeB h k l its) := by
  cases k with
  | true => exact Draws.list hh it l hne its
  | false => exact Draws.tuple hh it l hne its
theorem begins_B (l : Addr) (its : Array Value) : Begins (.ref l) (obB k l) fun h => HeB h k l its := by
  cases k with
  | true => exact begins_list l its
  | false => exact begins_tuple l its
/-- the sequences at a and b as they stand at each turn, the items in new pairs -/
def ItzB (K : PySem.W.Frag) (k1 k2 : Bool) (a b : Addr) : It where
  go i H := ∃ (xs ys : List V) (x y : V), SqB K H k1 a xs ∧ SqB K H k2 b ys ∧ xs[i]? = some x ∧ ys[i]? = some y
  yld i H v H' := ∃ T x y, v = .ref T ∧ H T = none ∧ H' = upd H T (.tup [x, y]) ∧ (∀ xs, SqB K H k1 a xs → xs[i]? = some x) ∧ ∀ ys, SqB K H k2 b ys → ys[i]? = some y
  stop i H := ∃ xs ys : List V, SqB K H k1 a xs ∧ SqB K H k2 b ys ∧ i ≤ xs.length ∧ i ≤ ys.length ∧ (i = xs.length ∨ i = ys.length)
def fp5 (N : Addr) : List Addr := [N + 4, N + 2, N + 3, N, N + 1]
def tnB (k1 k2 : Bool) (a b N : Addr) (i : Nat) (h : Heap) : Prop :=
  IsZip h (N + 4) (N + 2) (N + 3) .none ∧ IsTupOf2 h (N + 2) (.ref N) (.ref (N + 1)) ∧ (∃ x y, IsTupOf2 h (N + 3) x y) ∧ HiB h k1 N a i ∧ HiB h k2 (N + 1) b i
theorem fp5_mem {N c : Nat} : c ∈ fp5 N ↔ c = N + 4 ∨ c = N + 2 ∨ c = N + 3 ∨ c = N ∨ c = N + 1 := by simp [fp5]
theorem fp5_out {N c : Nat} (h : c ∉ fp5 N) : c ≠ N + 4 ∧ c ≠ N + 2 ∧ c ≠ N + 3 ∧ c ≠ N ∧ c ≠ N + 1 := by
  simp only [fp5_mem, not_or] at h
  exact h
theorem turn_zipB {P : Program} {w : World} {K : PySem.W.Frag} {elts : List Expr} {kk : Nat} {tpos : Pos} {a b N : Nat} {k1 k2 : Bool} (la : a < N) (lb : b < N) :
    Turn P w K (.Tuple elts kk tpos) (ItzB K k1 k2 a b) (fp5 N) (N + 4) (tnB k1 k2 a b N) where
  mem := fp5_mem.mpr (.inl rfl)
  obj := fun i h st c hc => by
    obtain ⟨hz, hTI, ⟨x, y, hTO⟩, e1, e2⟩ := st
    rcases fp5_mem.mp hc with q | q | q | q | q <;> subst q
    · exact ⟨_, hz, nofun⟩
    · exact ⟨_, hTI, nofun⟩
    · exact ⟨_, hTO, nofun⟩
    · exact e1.look
    · exact e2.look
  keep := fun i h h' st kp => by
    obtain ⟨hz, hTI, ⟨x, y, hTO⟩, e1, e2⟩ := st
    have m := fun c hc => kp c (fp5_mem.mpr hc)
    exact ⟨m _ (.inl rfl) _ hz, m _ (.inr (.inl rfl)) _ hTI, ⟨x, y, m _ (.inr (.inr (.inl rfl))) _ hTO⟩, e1.of (m _ (.inr (.inr (.inr (.inl rfl))))), e2.of (m _ (.inr (.inr (.inr (.inr rfl)))))⟩
  item := by
    intro X hP hw hK hc i pins s σ H E I hf st hg
    subst hP hw hK
    have st0 := st
    obtain ⟨hz, hTI, ⟨x0, y0, hTO⟩, e1, e2⟩ := st
    obtain ⟨xs, ys, x, y, hqx, hqy, hx, hy⟩ := hg
    obtain ⟨us, rv, p⟩ := SqB.he I hqx
    obtain ⟨us2, rv2, p2⟩ := SqB.he I hqy
    obtain ⟨u, hu, ru⟩ := rv.get hx
    obtain ⟨u2, hu2, ru2⟩ := rv2.get hy
    have hzl : N + 4 < s.heap.objs.size := Heap.lt_size hz
    have ne : ∀ {c d : Nat}, c < d → ∀ {e : Nat}, d ≤ e → c ≠ e := fun q e r => by omega
    have nb : b ≠ N + 1 := by omega
    have sep := zip_sep2 (N := N) (fp1 := [a]) (fp2 := [b]) (by simpa using la) (by simpa using lb)
    have l1 : i < us.toArray.size := by
      have := (List.getElem?_eq_some_iff.mp hu).1
      simpa using this
    have l2 : i < us2.toArray.size := by
      have := (List.getElem?_eq_some_iff.mp hu2).1
      simpa using this
    refine wpAny_pyNext_zipD2_item sep (draws_B (k := k1) (prog := X.prog) (w := X.w) (A := X.A.in1) (I.ok.hd hc) N a (Nat.ne_of_lt la) us.toArray) (draws_B (k := k2) (prog := X.prog) (w := X.w) (A := X.A.in1) (I.ok.hd hc) (N + 1) b nb us2.toArray)
      hz hTI hTO ⟨e1, p⟩ ⟨e2, p2⟩ l1 l2 fun v1 v2 h' tk y1 y2 z1 z2 z3 z4 z5 z6 hk => ?_
    have ev1 : v1 = u := by
      have q : us[i]? = some v1 := by simpa using y1
      rw [hu] at q
      exact (Option.some.inj q).symm
    have ev2 : v2 = u2 := by
      have q : us2[i]? = some v2 := by simpa using y2
      rw [hu2] at q
      exact (Option.some.inj q).symm
    subst ev1 ev2
    refine ⟨_, rfl, wpAny_letOwnedTupleGo_zip (s := { s with heap := h', toks := tk }) z1 fun h2 w1 sb => ?_⟩
    have old : ∀ c o, c ∉ fp5 N → s.heap.get? c = some o → h2.get? c = some o := fun c o hb q => by
      obtain ⟨c1, c2, c3, c4, c5⟩ := fp5_out hb
      exact (sb.2 _ c1).trans (hk c o c1 c3 c4 c5 q)
    have nw : ObjOk X.prog X.w (upd H s.heap.objs.size (.tup [x, y])) h2 s.heap.objs.size (.tup [x, y]) :=
      ⟨by show 2 ≤ sizeLine; decide, [v1, v2], .cons ru (.cons ru2 .nil), ⟨_, (sb.2 _ (Nat.ne_of_gt hzl)).trans z5, rfl, _, rfl⟩⟩
    refine ⟨.ref s.heap.objs.size, _, I.turnedNew (t' := tk) (ch := fp5 N) old hf (Nat.le_refl _) nw, rfl,
      ⟨_, x, y, rfl, I.hok.fresh (Nat.le_refl _), rfl, fun l hl => by rw [SqB.inj I hl hqx]; exact hx, fun l hl => by rw [SqB.inj I hl hqy]; exact hy⟩, ⟨w1, ?_, ⟨v1, v2, ?_⟩, ?_, ?_⟩, fun c hcm => ?_⟩
    · exact (sb.2 _ sep.TIz).trans (hk _ _ sep.TIz sep.TITO sep.TIi1 sep.TIi2 hTI)
    · exact (sb.2 _ sep.TOz).trans z2
    · exact z3.1.of fun o q => (sb.2 _ sep.zi1.symm).trans q
    · exact z4.1.of fun o q => (sb.2 _ sep.zi2.symm).trans q
    · have hlt : (c : Nat) < s.heap.objs.size := by
        have : (c : Nat) ≤ N + 4 := by
          rcases fp5_mem.mp hcm with q | q | q | q | q <;> subst q
          · exact Nat.le_refl _
          · exact Nat.add_le_add_left (by decide) _
          · exact Nat.add_le_add_left (by decide) _
          · exact Nat.le_add_right _ _
          · exact Nat.add_le_add_left (by decide) _
        exact Nat.lt_of_le_of_lt this hzl
      rw [upd_ne (Nat.ne_of_lt hlt)]
      exact (hf c hcm).1
  done := by
    intro X hP hw hK hc i pins s σ H E I hf st hg
    subst hP hw hK
    obtain ⟨hz, hTI, ⟨x0, y0, hTO⟩, e1, e2⟩ := st
    obtain ⟨xs, ys, hqx, hqy, m1, m2, hend⟩ := hg
    obtain ⟨us, rv, p⟩ := SqB.he I hqx
    obtain ⟨us2, rv2, p2⟩ := SqB.he I hqy
    have l1 := rv.length
    have l2 := rv2.length
    have nb : b ≠ N + 1 := by omega
    have sep := zip_sep2 (N := N) (fp1 := [a]) (fp2 := [b]) (by simpa using la) (by simpa using lb)
    refine wpAny_pyNext_zipD2_end sep (draws_B (k := k1) (prog := X.prog) (w := X.w) (A := X.A.in1) (I.ok.hd hc) N a (Nat.ne_of_lt la) us.toArray) (draws_B (k := k2) (prog := X.prog) (w := X.w) (A := X.A.in1) (I.ok.hd hc) (N + 1) b nb us2.toArray)
      hz hTI hTO ⟨e1, p⟩ ⟨e2, p2⟩ (by simp; omega) (by simp; omega) (by simp; omega) fun h' tk hk => ⟨rfl, I.turnedL (t' := tk) (ch := fp5 N) (fun c o hb q => ?_) hf⟩
    obtain ⟨c1, c2, c3, c4, c5⟩ := fp5_out hb
    exact hk c o c1 c3 c4 c5 q
  self := fun A i s Q E st h => wpAny_pyIter_zip st.1 h
def iZipB (K : PySem.W.Frag) (ta : TA) : TI := fun σ H R => ta σ H fun vs H1 => ∃ a b k1 k2 xs ys, vs = [.ref a, .ref b] ∧ SqB K H1 k1 a xs ∧ SqB K H1 k2 b ys ∧ R (ItzB K k1 k2 a b) H1
theorem pi_zipB {X : Cx} {e e2 : Expr} {ta : TA} {p pos tpos : Pos} {elts : List Expr} {kk : Nat} (hg : Gl X "zip") (hm : X.mg "zip" = none) (ha : PA X [e, e2] ta)
    (hs : starEach [e, e2] X.env = (false, eval e X.env) :: starEach [e2] X.env := by rfl) (hpl : (backTo pos (starEach [e2] X.env)).any (·.1) = false := by rfl) :
    PI X (.Tuple elts kk tpos) (.Call (.Name "zip" p) [e, e2] [] pos) (iZipB X.K ta) := by
  constructor
  intro pins s σ H R I h
  refine Call_ (ld_blt I hg hm PyProof.Rows.boot_zip (PyProof.Rows.callWith_type1 (thn (ha.run pos pins s σ H _ I h) fun us s1 ⟨vs, H1, I1, r1, q1⟩ => ?_) hs hpl))
  obtain ⟨a, b, k1, k2, xs, ys, ex, hqx, hqy, q⟩ := q1
  subst ex
  cases r1 with
  | cons r rr =>
    cases rr with
    | cons r' rr =>
      cases rr
      cases r
      cases r'
      obtain ⟨us, rv, p1⟩ := SqB.he I1 hqx
      obtain ⟨us2, rv2, p2⟩ := SqB.he I1 hqy
      refine zip_begins2 (begins_B a us.toArray) (begins_B b us2.toArray) p1 p2 fun h' hz hTI hTO g1 g2 hsz hk => wpAny_pyIter_zip hz ?_
      have nn : ∀ c ∈ fp5 s1.heap.objs.size, FpOk X pins H1 c := fun c hcm => by
        have hle : s1.heap.objs.size ≤ c := by
          rcases fp5_mem.mp hcm with z | z | z | z | z <;> rw [z]
          · exact Nat.le_add_right _ _
          · exact Nat.le_add_right _ _
          · exact Nat.le_add_right _ _
          · exact Nat.le_refl _
          · exact Nat.le_add_right _ _
        exact I1.fpOk hle (I1.hok.fresh hle)
      have I2 : Inv X pins σ H1 { s1 with heap := h' } := I1.kept (t' := s1.toks) hk
      have T := turn_zipB (P := X.prog) (w := X.w) (K := X.K) (elts := elts) (kk := kk) (tpos := tpos) (k1 := k1) (k2 := k2) p1.lt p2.lt
      have st : tnB k1 k2 a b s1.heap.objs.size 0 h' := ⟨hz, hTI, ⟨_, _, hTO⟩, HiB.new g1, HiB.new g2⟩
      exact ⟨s1.heap.objs.size + 4, fp5 s1.heap.objs.size, tnB k1 k2 a b s1.heap.objs.size, ItzB X.K k1 k2 a b, H1, rfl, I2, T, st, nn, q⟩
end
end DL
namespace DL
open PySem PySem.Spec PyProof.Rows L2
section
variable {X : Cx} {A : Am} {B : Bs} {E : XS} {Hb H Hb1 H1 : Hp} {σ : List (Option V)} {c c1 : Cfg} {fa fb fc ft fe : EF} {f g : SF} {De : Ends} {ga gb : AF}
/-! ### divmod of two ints -/
def gDivmod := gI fun i j => if 0 < j ∧ j < 1073741824 then some (.tup [.int (i / j), .int (i % j)]) else none
theorem cd_divmod : CaD2 X A (.builtin "divmod") gDivmod := by
  refine ⟨_, call_divmod, fun B Hb H σ c da db x y k d Q s hx hy e q => ?_⟩
  obtain ⟨i, j, rfl, rfl, e1, rfl⟩ := gI_inv e
  split at e1
  · rename_i hj
    cases e1
    refine ⟨i, j, by rw [hx.int, hy.int], hj, fun p hp => ?_⟩
    obtain ⟨s4, t4, r4⟩ := s.newTup hp (RepL.cons (A := A) (H := Hb) (rep_int.mpr rfl) (RepL.cons (rep_int.mpr rfl) RepL.nil))
    exact q _ _ _ s4 t4 r4
  · cases e1
/-! ### zip of two lists or of two tuples -/
def zipD : List D → List D → List D
  | a :: as, b :: bs => .tup [a, b] :: zipD as bs
  | _, _ => []
theorem zipD_len : ∀ as bs : List D, (zipD as bs).length = min as.length bs.length
  | [], bs => by simp [zipD]
  | a :: as, [] => by simp [zipD]
  | a :: as, b :: bs => by
    show (zipD as bs).length + 1 = min (as.length + 1) (bs.length + 1)
    rw [zipD_len as bs]
    omega
theorem zipD_get : ∀ {as bs : List D} {i : Nat} {e : D}, (zipD as bs)[i]? = some e → ∃ a b, as[i]? = some a ∧ bs[i]? = some b ∧ e = .tup [a, b]
  | [], bs, i, e, h => by simp [zipD] at h
  | a :: as, [], i, e, h => by simp [zipD] at h
  | a :: as, b :: bs, 0, e, h => by
    replace h : some (D.tup [a, b]) = some e := h
    exact ⟨a, b, rfl, rfl, (Option.some.inj h).symm⟩
  | a :: as, b :: bs, i + 1, e, h => by
    replace h : (zipD as bs)[i]? = some e := h
    obtain ⟨x, y, h1, h2, h3⟩ := zipD_get (as := as) (bs := bs) (i := i) h
    exact ⟨x, y, h1, h2, h3⟩
theorem itok_zipB {K : PySem.W.Frag} {k1 k2 : Bool} {a b : Addr} {xs ys : List V} {as bs : List D} {Hb0 : Hp} (h1 : ∀ {B Hb H σ c}, Same Hb0 Hb → Sr A B Hb H σ c → SqB K H k1 a xs) (r1 : RepL A Hb0 as xs) (h2 : ∀ {B Hb H σ c}, Same Hb0 Hb → Sr A B Hb H σ c → SqB K H k2 b ys) (r2 : RepL A Hb0 bs ys) : ItOk A (ItzB K k1 k2 a b) Hb0 (zipD as bs) := fun i B Hb H σ c e s => by
  have ha := h1 e s
  have hb := h2 e s
  refine ⟨fun hl => ⟨xs, ys, ha, hb, ?_⟩, fun d hd => ?_⟩
  · rw [zipD_len, r1.len, r2.len] at hl
    omega
  · obtain ⟨a', b', g1, g2, rfl⟩ := zipD_get hd
    obtain ⟨x, x1, x2⟩ := r1.get g1
    obtain ⟨y, y1, y2⟩ := r2.get g2
    refine ⟨⟨xs, ys, x, y, ha, hb, x1, y1⟩, fun z H' hz => ?_⟩
    obtain ⟨T, x', y', rfl, hT, rfl, k1, k2⟩ := hz
    have q1 := k1 xs ha
    rw [x1] at q1
    cases q1
    have q2 := k2 ys hb
    rw [y1] at q2
    cases q2
    obtain ⟨q1, q2, q3⟩ := s.newTup hT (RepL.cons (Rep.mono e _ _ x2) (RepL.cons (Rep.mono e _ _ y2) RepL.nil))
    exact ⟨_, q2.b, q2.k, q1, q3⟩
def evZip (g : AF) : AF := fun c => match g c with
  | .ok [.lst as, .lst bs] c1 => .ok (zipD as bs) c1
  | .ok [.tup as, .tup bs] c1 => .ok (zipD as bs) c1
  | .ok [.lst as, .tup bs] c1 => .ok (zipD as bs) c1
  | .ok [.tup as, .lst bs] c1 => .ok (zipD as bs) c1
  | .ok _ _ => .bad
  | .exc x W => .exc x W
  | .bad => .bad
theorem di_zip {e e2 : Expr} {p pos tpos : Pos} {elts : List Expr} {kk : Nat} (hg : Gl X "zip") (hm : X.mg "zip" = none) (ha : DA X A B E [e, e2] ga) (hs : starEach [e, e2] X.env = (false, eval e X.env) :: starEach [e2] X.env := by rfl) (hpl : (backTo pos (starEach [e2] X.env)).any (·.1) = false := by rfl) :
    DI X A B E (.Tuple elts kk tpos) (.Call (.Name "zip" p) [e, e2] [] pos) (evZip ga) :=
  PI.imp (pi_zipB hg hm ha hs hpl) fun σ H R ⟨Hb, c, s, q⟩ => by
    refine ⟨Hb, c, s, ?_⟩
    unfold evZip at q
    cases ef : ga c with
    | exc x W => rw [ef] at q; exact q
    | bad => rw [ef] at q; exact False.elim q
    | ok es c1 =>
      rw [ef] at q
      intro vs Hb1 H1 s1 t1 k1
      match es, q, k1 with
      | [.lst as, .lst bs], q, k1 =>
        obtain ⟨x, xs, rfl, hx, hr⟩ := repL_cons.mp k1
        obtain ⟨y, ys, rfl, hy, hr2⟩ := repL_cons.mp hr
        rw [repL_nil.mp hr2]
        obtain ⟨a, xa, rfl, h1, h2⟩ := rep_lst.mp hx
        obtain ⟨b, xb, rfl, h3, h4⟩ := rep_lst.mp hy
        exact ⟨a, b, true, true, xa, xb, rfl, SqL.of (s1.same _ _ h1), SqL.of (s1.same _ _ h3), q _ Hb1 H1 s1 t1 (itok_zipB (fun e s => SqL.of (s.same _ _ (e _ _ h1))) h2 (fun e s => SqL.of (s.same _ _ (e _ _ h3))) h4)⟩
      | [.tup as, .tup bs], q, k1 =>
        obtain ⟨x, xs, rfl, hx, hr⟩ := repL_cons.mp k1
        obtain ⟨y, ys, rfl, hy, hr2⟩ := repL_cons.mp hr
        rw [repL_nil.mp hr2]
        obtain ⟨a, xa, rfl, h1, h2⟩ := rep_tup.mp hx
        obtain ⟨b, xb, rfl, h3, h4⟩ := rep_tup.mp hy
        exact ⟨a, b, false, false, xa, xb, rfl, SqT.of (s1.same _ _ h1), SqT.of (s1.same _ _ h3), q _ Hb1 H1 s1 t1 (itok_zipB (fun e s => SqT.of (s.same _ _ (e _ _ h1))) h2 (fun e s => SqT.of (s.same _ _ (e _ _ h3))) h4)⟩
      | [.lst as, .tup bs], q, k1 =>
        obtain ⟨x, xs, rfl, hx, hr⟩ := repL_cons.mp k1
        obtain ⟨y, ys, rfl, hy, hr2⟩ := repL_cons.mp hr
        rw [repL_nil.mp hr2]
        obtain ⟨a, xa, rfl, h1, h2⟩ := rep_lst.mp hx
        obtain ⟨b, xb, rfl, h3, h4⟩ := rep_tup.mp hy
        exact ⟨a, b, true, false, xa, xb, rfl, SqL.of (s1.same _ _ h1), SqT.of (s1.same _ _ h3), q _ Hb1 H1 s1 t1 (itok_zipB (fun e s => SqL.of (s.same _ _ (e _ _ h1))) h2 (fun e s => SqT.of (s.same _ _ (e _ _ h3))) h4)⟩
      | [.tup as, .lst bs], q, k1 =>
        obtain ⟨x, xs, rfl, hx, hr⟩ := repL_cons.mp k1
        obtain ⟨y, ys, rfl, hy, hr2⟩ := repL_cons.mp hr
        rw [repL_nil.mp hr2]
        obtain ⟨a, xa, rfl, h1, h2⟩ := rep_tup.mp hx
        obtain ⟨b, xb, rfl, h3, h4⟩ := rep_lst.mp hy
        exact ⟨a, b, false, true, xa, xb, rfl, SqT.of (s1.same _ _ h1), SqL.of (s1.same _ _ h3), q _ Hb1 H1 s1 t1 (itok_zipB (fun e s => SqT.of (s.same _ _ (e _ _ h1))) h2 (fun e s => SqL.of (s.same _ _ (e _ _ h3))) h4)⟩
end
end DL
namespace DL
open PySem PySem.Spec PyProof.Rows L2
/-! ### methods of a list, with one argument: index, count -/
def toV : D → V
  | .bl b => .bl b
  | .int i => .int i
  | .str x => .str x
  | _ => .non
def flD : D → Bool
  | .non => true
  | .bl _ => true
  | .int _ => true
  | .str _ => true
  | _ => false
/-- == of flat data -/
def eqF (a b : D) : Bool := eqV (toV a) (toV b)
section
variable {X : Cx} {A : Am} {B : Bs} {E : XS} {Hb H Hb1 H1 : Hp} {σ : List (Option V)} {c c1 : Cfg} {fa fb fc ft fe : EF} {d : D} {v : V}
theorem flat_toV (h : flD d = true) : flatV (toV d) = true := by cases d <;> first | rfl | cases h
theorem rep_flat (hd : flD d = true) (h : Rep A H d v) : v = toV d := by
  cases d with
  | non => exact rep_non.mp h
  | bl b => exact rep_bl.mp h
  | int i => exact rep_int.mp h
  | str x => exact rep_str.mp h
  | _ => cases hd
theorem repL_flat : ∀ {ds : List D} {xs : List V}, RepL A H ds xs → ds.all flD = true → xs = ds.map toV
  | [], xs, h, _ => repL_nil.mp h
  | d :: ds, xs, h, hf => by
    rw [List.all_cons, Bool.and_eq_true] at hf
    obtain ⟨x, ys, rfl, h1, h2⟩ := repL_cons.mp h
    rw [rep_flat hf.1 h1, repL_flat h2 hf.2]
    rfl
theorem repO_flat (hd : flD d = true) (h : RepO A Hb H d v) : v = toV d := by
  rcases h with h | ⟨a, o, _, _, z, _⟩
  · exact rep_flat hd h
  · cases d <;> first | exact z.elim | cases hd
def LmS (A : Am) (r : V → List V → Hp → VK → Prop) (g : List D → D → Option (Kd × D)) : Prop := ∀ (B : Bs) (Hb H : Hp) (σ : List (Option V)) (c : Cfg) (ds : List D) (db : D) (x y : V) (k : Kd) (d : D) (Q : VK), Sr A B Hb H σ c → RepO A Hb H (.lst ds) x → RepO A Hb H db y → g ds db = some (k, d) →
  (∀ v Hb' H', Sr A B Hb' H' σ c → Stp A Hb H Hb' H' → RepK A B Hb' H' σ c k d v → Q v H') → r x [y] H Q
def evLM (g : List D → D → Option (Kd × D)) (fa fb : EF) : EF := fun c => (fa c).bind fun _ da c1 => match da with
  | .lst ds => (fb c1).bind fun _ db c2 => ofO c2 (g ds db)
  | _ => .bad
theorem de_lm {o e : Expr} {name : Str} {apos cpos : Pos} {id : String} {r : V → List V → Hp → VK → Prop} {g : List D → D → Option (Kd × D)} (slot : Slot "list" name id) (hty : typeOf (.builtin id) = pure (.type "method_descriptor")) (hm : MtR X id r) (hr : LmS A r g) (hK : X.K = A.K) (ha : DE X A B E o fa) (hb : DE X A B E e fb)
    (hbase : attributeBase o name X.env (eval o X.env) = eval o X.env := by rfl)
    (hfew : ((backTo cpos (starEach [e] X.env)).all (fun x => !x.1) && (backToKw cpos (keywordEach [] X.env)).all (fun x => x.1.isSome) && decide ([e].length + ([] : List Keyword).length + (if ([] : List Keyword).isEmpty then 0 else 1) < 30)) = true := by rfl)
    (hline : (apos.endLine == cpos.line) = true := by rfl) (hs : starEach [e] X.env = (false, eval e X.env) :: starEach [] X.env := by rfl) (hplain : (backTo cpos (starEach [] X.env)).any (·.1) = false := by rfl) :
    DE X A B E (.Call (.Attribute o name apos) [e] [] cpos) (evLM g fa fb) :=
  PE.imp (pe_bm PySem.F.plainAttrs_list slot hty hm ha (pa_cons hb pa_nil hs) hbase hfew hline hs hplain) fun σ H Q ⟨Hb, c, s, q⟩ => by
    refine rd_then s q fun k d c1 v Hb1 H1 _ s1 t1 k1 q1 => ?_
    cases d with
    | lst ds =>
      have ko := k1.o
      obtain ⟨a, xs, rfl, h1, h2⟩ := ko.lst s1.same
      refine ⟨.inl ⟨rfl, xs, SqL.of h1⟩, ?_⟩
      refine rd_then s1 q1 fun k' d' c2 v' Hb2 H2 _ s2 t2 k2 q2 => ?_
      cases eg : g ds d' with
      | none => rw [eg] at q2; exact False.elim q2
      | some p =>
        obtain ⟨kk, dd⟩ := p
        rw [eg] at q2
        exact hr B Hb2 H2 σ c2 ds d' _ v' kk dd Q s2 (ko.mono t2) k2.o eg q2
    | _ => exact False.elim q1
/-! count -/
def rCntF (K : PySem.W.Frag) : V → List V → Hp → VK → Prop := fun x xs H Q => ∃ (p : Addr) (ys : List V) (y : V), x = .ref p ∧ xs = [y] ∧ SqL K H p ys ∧ flatV y = true ∧ ys.all flatV = true ∧ Q (.int (ys.countP fun z => eqV z y : Nat)) H
theorem cnt_eqU {y : V} {uy : Value} (ry : RelV y uy) : ∀ {ys : List V} {us : List Value}, Vals ys us → ys.all flatV = true → us.countP (eqU y) = ys.countP fun z => eqV z y
  | _, _, .nil, _ => rfl
  | z :: ys, u :: us, .cons r t, f => by
    rw [List.all_cons, Bool.and_eq_true] at f
    rw [List.countP_cons, List.countP_cons, cnt_eqU ry t f.2, eqU_of r f.1]
theorem mt_countF : MtR X "list.count" (rCntF X.K) := by
  intro pins s σ H x xs v us Q I rx rxs h
  obtain ⟨p, ys, y, rfl, rfl, hs, fy, fys, q⟩ := h
  cases rx
  obtain ⟨u, rfl, ru⟩ := rxs.one
  obtain ⟨its, rv, ⟨⟨cls, dd, data, sl⟩, n, ho, hc, hdn, hd⟩, hlen⟩ := I.list hs
  simp only at hc hd
  subst hc hd
  refine call_meets PySem.F.slot_list_count ⟨_, ho, rfl⟩ PySem.F.entry_list_count (PySem.F.args_list_count_2 _ _)
    (SeqAt.list_countAt p its.toArray n dd sl u (eqU y)) ⟨ho, fun w hw => mem_eqAt ru fy rv fys w (by simpa using hw), ?_⟩
  have ec : its.toArray.toList.countP (eqU y) = ys.countP fun z => eqV z y := cnt_eqU ru rv fys
  refine ⟨.int (ys.countP fun z => eqV z y : Nat), H, I.tok _, ⟨s.toks, ?_⟩, q⟩
  rw [ec]
def gCountL : List D → D → Option (Kd × D) := fun ds b => if ds.all flD && flD b then some (.st, .int (ds.countP fun z => eqF z b : Nat)) else none
theorem lm_count {K : PySem.W.Frag} : LmS A (rCntF K) gCountL := by
  intro B Hb H σ c ds db x y k d Q s hx hy e q
  unfold gCountL at e
  split at e
  · rename_i hf
    rw [Bool.and_eq_true] at hf
    cases e
    obtain ⟨a, xs, rfl, h1, h2⟩ := hx.lst s.same
    have e1 := repL_flat h2 hf.1
    have e2 := repO_flat hf.2 hy
    subst e1 e2
    refine ⟨a, _, _, rfl, rfl, SqL.of h1, flat_toV hf.2, ?_, ?_⟩
    · rw [List.all_map]
      exact List.all_eq_true.mpr fun z hz => flat_toV (List.all_eq_true.mp hf.1 z hz)
    · rw [List.countP_map]
      exact q _ Hb H s .refl rk_int
  · cases e
/-! index -/
def gIndexL : List D → D → Option (Kd × D) := fun ds b => if ds.all flD && flD b then (ds.findIdx? fun z => eqF z b).map fun j => (.st, .int (j : Nat)) else none
theorem lm_index {K : PySem.W.Frag} : LmS A (rIndex K) gIndexL := by
  intro B Hb H σ c ds db x y k d Q s hx hy e q
  unfold gIndexL at e
  split at e
  · rename_i hf
    rw [Bool.and_eq_true] at hf
    cases ej : ds.findIdx? fun z => eqF z db with
    | none => rw [ej] at e; cases e
    | some j =>
      rw [ej] at e
      cases e
      obtain ⟨hj, h3, h4⟩ := List.findIdx?_eq_some_iff_getElem.mp ej
      obtain ⟨a, xs, rfl, h1, h2⟩ := hx.lst s.same
      have e1 := repL_flat h2 hf.1
      have e2 := repO_flat hf.2 hy
      subst e1 e2
      refine ⟨a, _, _, j, toV ds[j], rfl, rfl, SqL.of h1, flat_toV hf.2, ?_, ?_, h3, fun m z hm hz => ?_, q _ Hb H s .refl rk_int⟩
      · rw [List.all_map]
        exact List.all_eq_true.mpr fun z hz => flat_toV (List.all_eq_true.mp hf.1 z hz)
      · rw [List.getElem?_map, List.getElem?_eq_getElem hj]
        rfl
      · rw [List.getElem?_map, List.getElem?_eq_getElem (by omega : m < ds.length)] at hz
        cases hz
        have := h4 m hm
        simpa [eqF] using this
  · cases e
end
end DL
namespace DL
open PySem PySem.Spec PyProof.Rows L2
section
variable {X : Cx} {A : Am} {B : Bs} {E : XS} {Hb H Hb1 H1 : Hp} {σ : List (Option V)} {c c1 : Cfg} {fa fb fc ft fe : EF} {f g : SF} {De : Ends} {ga gb : AF}
/-! ### range with a step -/
def rngC (lo c : Int) (n : Nat) : List D := (List.range n).map fun i : Nat => D.int (lo + (i : Nat) * c)
theorem itok_rngC {lo c0 : Int} {n : Nat} {Hb0 : Hp} : ItOk A (Itc lo c0 n) Hb0 (rngC lo c0 n) := fun i B Hb H σ c e s => by
  refine ⟨fun hl => (show n ≤ i by rw [hl]; simp [rngC]), fun d hd => ?_⟩
  unfold rngC at hd
  rw [List.getElem?_map] at hd
  cases er : (List.range n)[i]? with
  | none => rw [er] at hd; cases hd
  | some j =>
    rw [er] at hd
    cases hd
    have hi : i < n := by simpa using (List.getElem?_eq_some_iff.mp er).1
    have : j = i := by simpa [hi] using er.symm
    subst this
    refine ⟨hi, fun x H' hy => ?_⟩
    obtain ⟨rfl, rfl⟩ := hy
    exact ⟨Hb, Same.refl _, Kept.refl _, s, rep_int.mpr rfl⟩
def rg3Ok (i j c : Int) : Bool := decide (c ≠ 0) && (decide (c.natAbs < 1073741824) && (Builtin.Range.small i j c && decide (0 ≤ Builtin.Range.rangeSize i j c)))
def evR3 (g : AF) : AF := fun c => match g c with
  | .ok [.int i, .int j, .int k] c1 => if rg3Ok i j k then .ok (rngC i k (Builtin.Range.rangeSize i j k).toNat) c1 else .bad
  | .ok _ _ => .bad
  | .exc x W => .exc x W
  | .bad => .bad
theorem di_range3 {tg e e2 e3 : Expr} {p pos : Pos} (hg : Gl X "range") (hm : X.mg "range" = none) (ha : DA X A B E [e, e2, e3] ga) (hs : starEach [e, e2, e3] X.env = (false, eval e X.env) :: starEach [e2, e3] X.env := by rfl) (hpl : (backTo pos (starEach [e2, e3] X.env)).any (·.1) = false := by rfl) :
    DI X A B E tg (.Call (.Name "range" p) [e, e2, e3] [] pos) (evR3 ga) :=
  PI.imp (pi_range3 hg hm ha hs hpl) fun σ H R ⟨Hb, c, s, q⟩ => by
    refine ⟨Hb, c, s, ?_⟩
    unfold evR3 at q
    cases ef : ga c with
    | exc x W => rw [ef] at q; exact q
    | bad => rw [ef] at q; exact False.elim q
    | ok es c1 =>
      rw [ef] at q
      intro vs Hb1 H1 s1 t1 k1
      match es, q, k1 with
      | [.int i, .int j, .int k], q, k1 =>
        dsimp only at q
        split at q
        · rename_i h
          unfold rg3Ok at h
          simp only [Bool.and_eq_true, decide_eq_true_eq] at h
          obtain ⟨h1, h2, h3, h4⟩ := h
          obtain ⟨x, xs, rfl, hx, hr⟩ := repL_cons.mp k1
          obtain ⟨y, ys, rfl, hy, hr2⟩ := repL_cons.mp hr
          obtain ⟨z, zs, rfl, hz, hr3⟩ := repL_cons.mp hr2
          rw [repL_nil.mp hr3, rep_int.mp hx, rep_int.mp hy, rep_int.mp hz]
          exact ⟨i, j, k, (Builtin.Range.rangeSize i j k).toNat, rfl, ⟨h1, h2, h3, by omega⟩, q _ Hb1 H1 s1 t1 itok_rngC⟩
        · exact False.elim q
/-! ### list(range(a, b)) -/
def evLR2 (fa fb : EF) : EF := fun c => (fa c).bind fun _ d1 c1 => (fb c1).bind fun _ d2 c2 => match d1, d2 with
  | .int i, .int j => if rOk i && (rOk j && decide ((j - i).toNat ≤ 1000000)) then .ok .fr (.lst (rngD i (j - i).toNat)) c2 else .bad
  | _, _ => .bad
theorem de_listR2 {p p2 pos pos2 : Pos} {e e' : Expr} (hc : X.calm = true) (hg : Gl X "list") (hm : X.mg "list" = none) (hg2 : Gl X "range") (hm2 : X.mg "range" = none) (ha : DE X A B E e fa) (hb : DE X A B E e' fb) (na : starEach [e, e'] X.env = (false, eval e X.env) :: starEach [e'] X.env := by rfl)
    (nb : starEach [e'] X.env = (false, eval e' X.env) :: starEach [] X.env := by rfl) (hp : (backTo pos2 (starEach [e'] X.env)).any (·.1) = false := by rfl)
    (na2 : starEach [.Call (.Name "range" p2) [e, e'] [] pos2] X.env = (false, eval (.Call (.Name "range" p2) [e, e'] [] pos2) X.env) :: starEach [] X.env := by rfl) : DE X A B E (.Call (.Name "list" p) [.Call (.Name "range" p2) [e, e'] [] pos2] [] pos) (evLR2 fa fb) :=
  PE.imp (pe_listRg hc hg hm (prg_2 hg2 hm2 ha hb na nb hp) na2) fun σ H Q ⟨Hb, c, s, q⟩ => by
    show rdE A B E fa σ H _
    refine rd_then s q fun k d c1 v Hb1 H1 _ s1 t1 k1 q1 => ?_
    refine rd_then s1 q1 fun k' d' c2 v' Hb2 H2 _ s2 t2 k2 q2 => ?_
    cases d with
    | int i =>
      cases d' with
      | int j =>
        dsimp only at q2
        split at q2
        · rename_i h
          simp only [Bool.and_eq_true, decide_eq_true_eq] at h
          obtain ⟨h1, h2, h3⟩ := h
          have r1 := rOk_of h1
          have r2 := rOk_of h2
          refine ⟨i, j, ((k1.o).mono t2).int, k2.o.int, ?_, fun p hp => ?_⟩
          · unfold RgOk
            omega
          · obtain ⟨s4, t4, r4⟩ := s2.newLst hp (repL_rng (A := A) (Hb := Hb2) i (j - i).toNat)
            exact q2 _ _ _ s4 t4 r4
        · exact q2.elim
      | _ => exact q2.elim
    | _ => cases d' <;> exact q2.elim
end
/-! ### the plain side -/
section
variable {fe ft fa fb : EF} {it ga : AF} {acc : List D} {c : Cfg} {r : List (Option (Bool × D))} {W : Wd} {Q : QE} {X : QX} {QL : QA}
def zipK (QL : QA) (ds : List D) (c : Cfg) : Prop := ∃ as bs, (ds = [.lst as, .lst bs] ∨ ds = [.tup as, .tup bs] ∨ ds = [.lst as, .tup bs]) ∧ QL (zipD as bs) c
theorem wA_zip (h : wpA (ga c) (zipK QL) X) : wpA (evZip ga c) QL X := by
  unfold evZip
  cases e : ga c with
  | ok ds c1 =>
    rw [e] at h
    obtain ⟨as, bs, hd, q⟩ := h
    rcases hd with rfl | rfl | rfl <;> exact ⟨q⟩
  | exc x W => rw [e] at h; exact h
  | bad => rw [e] at h; exact h
theorem zip_l {as bs : List D} (q : QL (zipD as bs) c) : zipK QL [.lst as, .lst bs] c := ⟨as, bs, .inl rfl, q⟩
theorem zip_t {as bs : List D} (q : QL (zipD as bs) c) : zipK QL [.tup as, .tup bs] c := ⟨as, bs, .inr (.inl rfl), q⟩
theorem zip_lt {as bs : List D} (q : QL (zipD as bs) c) : zipK QL [.lst as, .tup bs] c := ⟨as, bs, .inr (.inr rfl), q⟩
theorem zipD_map {α β : Type} (e : α → D) (f : β → D) : ∀ (xs : List α) (ys : List β), zipD (xs.map e) (ys.map f) = (xs.zip ys).map fun p => .tup [e p.1, f p.2]
  | [], ys => by simp [zipD]
  | x :: xs, [] => by simp [zipD]
  | x :: xs, y :: ys => by
    show D.tup [e x, f y] :: zipD (xs.map e) (ys.map f) = _
    rw [zipD_map e f xs ys]
    rfl
def lstK (d : D) (h : List D → Prop) : Prop := ∃ ds, d = .lst ds ∧ h ds
theorem lst_i {ds : List D} {h : List D → Prop} (q : h ds) : lstK (.lst ds) h := ⟨ds, rfl, q⟩
theorem wE_lm {g : List D → D → Option (Kd × D)} (h : wpE (fa c) (fun _ d1 c1 => lstK d1 fun ds => wpE (fb c1) (fun _ d2 c2 => wpO (g ds d2) fun k d' => Q k d' c2) X) X) : wpE (evLM g fa fb c) Q X := by
  unfold evLM
  refine wE_bind (h.imp fun k d c1 q => ?_)
  obtain ⟨ds, rfl, q⟩ := q
  exact wE_bind (q.imp fun k2 d2 c2 q2 => wE_ofO q2)
end
end DL
namespace DL
open PySem PySem.Spec PyProof.Rows L2
/-! ### cuts of a list; least and greatest of a list of numbers (plain) -/
theorem cut_nn' {α : Type} (e : α → D) (xs : List α) (a b : Nat) (h : a ≤ b) (hb : b ≤ xs.length) : cutD (xs.map e) (some (a : Int)) (some (b : Int)) = ((xs.drop a).take (b - a)).map e := by
  unfold cutD
  rw [HT.sIx_nat, HT.sIx_nat, List.length_map, Nat.min_eq_left hb, Nat.min_eq_left (by omega), List.map_take, List.map_drop]
theorem cut_0n' {α : Type} (e : α → D) (xs : List α) (b : Nat) (hb : b ≤ xs.length) : cutD (xs.map e) none (some (b : Int)) = (xs.take b).map e := by
  unfold cutD
  rw [HT.sIx_none, HT.sIx_nat, List.length_map, Nat.min_eq_left hb, List.drop_zero, Nat.sub_zero, List.map_take]
theorem cut_n0' {α : Type} (e : α → D) (xs : List α) (a : Nat) (ha : a ≤ xs.length) : cutD (xs.map e) (some (a : Int)) none = (xs.drop a).map e := by
  unfold cutD
  rw [HT.sIx_none, HT.sIx_nat, List.length_map, Nat.min_eq_left ha, ← List.map_drop]
  exact List.take_of_length_le (by simp)
theorem cutD_len' (ds : List D) (lo hi : Option Int) : (cutD ds lo hi).length ≤ ds.length := by
  unfold cutD
  simp
  omega
theorem asI_int (ns : List Int) : asI (ns.map D.int) = some ns := by
  induction ns with
  | nil => rfl
  | cons n ns ih => simp [asI, ih] at *
theorem gMin_int (n : Int) (ns : List Int) : gMin (.lst ((n :: ns).map D.int)) = some (.st, .int (minI n ns)) := by
  show (asI ((n :: ns).map D.int)).bind _ = _
  rw [asI_int]
  rfl
theorem gMax_int (n : Int) (ns : List Int) : gMax (.lst ((n :: ns).map D.int)) = some (.st, .int (maxI n ns)) := by
  show (asI ((n :: ns).map D.int)).bind _ = _
  rw [asI_int]
  rfl
/-- the text of a number of at most 1900 bits -/
theorem sw_natP {p m : Nat} (h : m < 2 ^ p) (hp : p ≤ 1900) : Sw 0 (p + 1) (.int (m : Nat)) := by
  refine ⟨gd_int 0 _, _, py_int, ?_, ?_⟩
  · unfold PyData.showable
    refine decide_eq_true ?_
    rw [Int.natAbs_natCast]
    by_cases hm : m = 0
    · rw [hm]; decide
    · exact (Nat.log2_lt hm).mpr (Nat.lt_of_lt_of_le h (Nat.pow_le_pow_right (by decide) (by omega)))
  · unfold PyData.shown
    refine tx_nat (Nat.lt_of_lt_of_le h ?_)
    refine Nat.le_trans (Nat.pow_le_pow_left (by decide : 2 ≤ 10) p) ?_
    exact Nat.pow_le_pow_right (by decide) (by omega)
end DL
namespace DL
open PySem PySem.Spec PyProof.Rows L2
section
variable {X : Cx} {A : Am} {B : Bs} {E : XS} {Hb H Hb1 H1 : Hp} {σ : List (Option V)} {c c1 : Cfg} {fa fb fc ft fe : EF} {f g : SF} {De : Ends} {ga gb : AF}
/-! ### new objects of the frame's own: dicts -/
theorem Sr.newOwn {p : Addr} {d : D} {o : HO} (s : Sr A B Hb H σ c) (hp : H p = none) (h : ObjD A Hb d o) :
    Sr A B Hb (upd H p o) σ c ∧ Stp A Hb H Hb (upd H p o) ∧ RepK A B Hb (upd H p o) σ c .fr d (.ref p) := by
  have nb := s.fin.hr.freshB hp
  have np : ¬ B.pr p := fun z => by
    obtain ⟨⟨o, h1, _⟩, _⟩ := s.pr p z
    rw [hp] at h1
    cases h1
  refine ⟨s.new hp, ⟨Same.refl _, .of (same_upd hp)⟩, p, ⟨_, rfl, upd_same, h, nb, s.fin.hr.fresh hp, s.fin.h0n hp, np⟩, fun i d' h z => ?_⟩
  obtain ⟨a, o, h1, h2, _⟩ := s.ow i d' h
  rw [h1] at z
  cases z
  rw [hp] at h2
  cases h2
/-- {} with ints and texts as keys -/
def evDK0 : EF := fun c => .ok .fr (.dK [] []) c
/-- {} with tuples as keys -/
def evDT0 : EF := fun c => .ok .fr (.dT [] []) c
theorem de_dK0 {pos : Pos} : DE X A B E (.Dict [] [] pos) evDK0 := PE.imp pe_dnewK fun σ H Q ⟨Hb, c, s, q⟩ => by
  intro p hp
  obtain ⟨s2, t2, r2⟩ := s.newOwn (d := .dK [] []) hp ⟨[], rfl, rfl, RepL.nil⟩
  exact q _ _ _ s2 t2 r2
theorem de_dT0 {pos : Pos} : DE X A B E (.Dict [] [] pos) evDT0 := PE.imp pe_dnewT fun σ H Q ⟨Hb, c, s, q⟩ => by
  intro p hp
  obtain ⟨s2, t2, r2⟩ := s.newOwn (d := .dT [] []) hp ⟨[], rfl, rfl, RepL.nil⟩
  exact q _ _ _ s2 t2 r2
end
section
variable {Q : QE} {X : QX} {c : Cfg}
theorem mulOk_r {i j : Int} (h : -(2 ^ 64) < j ∧ j < 2 ^ 64) : mulOk i j = true := by
  unfold mulOk
  rw [decide_eq_true h.1, decide_eq_true h.2]
  simp
theorem wE_dK0 (q : Q .fr (.dK [] []) c) : wpE (evDK0 c) Q X := ⟨q⟩
theorem wE_dT0 (q : Q .fr (.dT [] []) c) : wpE (evDT0 c) Q X := ⟨q⟩
end
/-- what is asked behind a statement, weakened first -/
theorem wpS.impN {r : SR} {N : QC} {R : QR} {BB CC : QC} {X : QX} (N' : QC) (h : wpS r ⟨N', R, BB, CC, X⟩) (i : ∀ c, N' c → N c) : wpS r ⟨N, R, BB, CC, X⟩ := by
  cases r with
  | nx c => exact ⟨i c h.h⟩
  | ret fr d W => exact h
  | brk c => exact h
  | cnt c => exact h
  | exc x W => exact h
  | bad => exact h
/-- a draw below a great bound -/
theorem any_exP {W : Wd} {n p : Nat} (hW : WOk1 W) (h0 : 0 < n) (h1 : n < 2 ^ p) (hp : p ≤ 9000) : ∃ (k : Nat) (W' : Wd), k < n ∧ WOk1 W' ∧ F__law_any [.deal, .int (n : Int)] W = .ret false (.int (k : Int)) W' := by
  have hb : (0 : Int) < (n : Int) := by omega
  obtain ⟨g1, g2⟩ := anyW_in (W := W) hb
  refine ⟨(anyW W n).1.toNat, (anyW W n).2, by omega, anyW_ok hW n, ?_⟩
  have hf : fdivOk (n : Int) = true := by
    unfold fdivOk
    rw [Bool.and_eq_true]
    refine ⟨decide_eq_true hb, decide_eq_true ?_⟩
    have : ((n : Int).natAbs).log2 < p := by
      rw [Int.natAbs_natCast]
      exact (Nat.log2_lt (by omega)).mpr h1
    omega
  have hok : anyOk W (n : Int) = true := by
    unfold anyOk
    rw [hf, Bool.true_and]
    exact decide_eq_true hW.l
  show (if anyOk W (n : Int) then FR.ret false (.int (anyW W n).1) (anyW W n).2 else .bad) = _
  rw [if_pos hok, Int.toNat_of_nonneg g1]
end DL
namespace DL
open PySem PySem.Spec PyProof.Rows L2
/-! ### a call with an object of one's own that stays one's own -/
mutual
/-- told by itself and tuples alone -/
def onlyT : D → Bool
  | .non => true
  | .bl _ => true
  | .int _ => true
  | .str _ => true
  | .tup ds => onlyTL ds
  | _ => false
def onlyTL : List D → Bool
  | [] => true
  | d :: ds => onlyT d && onlyTL ds
end
theorem onlyT_tup {ds : List D} : onlyT (.tup ds) = onlyTL ds := by conv => lhs; unfold onlyT
theorem onlyTL_cons {d : D} {ds : List D} : onlyTL (d :: ds) = (onlyT d && onlyTL ds) := by conv => lhs; unfold onlyTL
theorem onlyTL_map {α : Type} {e : α → D} : ∀ {xs : List α}, (∀ x ∈ xs, onlyT (e x) = true) → onlyTL (xs.map e) = true
  | [], _ => by unfold onlyTL; rfl
  | x :: xs, h => by
    rw [List.map_cons, onlyTL_cons, h x List.mem_cons_self, onlyTL_map fun y hy => h y (List.mem_cons_of_mem _ hy)]
    rfl
mutual
theorem Rep.less {A : Am} {H H' : Hp} (e : ∀ p xs, H p = some (.tup xs) → H' p = some (.tup xs)) : ∀ (d : D) (v : V), onlyT d = true → Rep A H d v → Rep A H' d v
  | .non, v, n, h => by unfold Rep at h ⊢; exact h
  | .bl b, v, n, h => by unfold Rep at h ⊢; exact h
  | .int i, v, n, h => by unfold Rep at h ⊢; exact h
  | .str x, v, n, h => by unfold Rep at h ⊢; exact h
  | .tup ds, v, n, h => by
    rw [onlyT_tup] at n
    unfold Rep at h ⊢
    obtain ⟨a, xs, h1, h2, h3⟩ := h
    exact ⟨a, xs, h1, e _ _ h2, RepL.less e ds xs n h3⟩
  | .lst ds, v, n, h => by unfold onlyT at n; cases n
  | .obj C ns ds, v, n, h => by unfold onlyT at n; cases n
  | .deal, v, n, h => by unfold onlyT at n; cases n
  | .err cn ds, v, n, h => by unfold onlyT at n; cases n
  | .dK ks ds, v, n, h => by unfold onlyT at n; cases n
  | .dT ks ds, v, n, h => by unfold onlyT at n; cases n
theorem RepL.less {A : Am} {H H' : Hp} (e : ∀ p xs, H p = some (.tup xs) → H' p = some (.tup xs)) : ∀ (ds : List D) (xs : List V), onlyTL ds = true → RepL A H ds xs → RepL A H' ds xs
  | [], xs, n, h => by unfold RepL at h ⊢; exact h
  | d :: ds, xs, n, h => by
    rw [onlyTL_cons] at n
    obtain ⟨n1, n2⟩ := Bool.and_eq_true_iff.mp n
    unfold RepL at h ⊢
    obtain ⟨x, r, h1, h2, h3⟩ := h
    exact ⟨x, r, h1, Rep.less e d x n1 h2, RepL.less e ds r n2 h3⟩
end
theorem ObjD.notup {A : Am} {Hb : Hp} {d : D} {o : HO} (h : ObjD A Hb d o) : ∀ xs, o ≠ .tup xs := by
  intro ps z
  cases d with
  | lst ds =>
    obtain ⟨xs, h1, h2⟩ := h
    rw [h1] at z
    cases z
  | obj C ns ds =>
    obtain ⟨dx, fs, h1, h2, h3⟩ := h
    rw [h1] at z
    cases z
  | dK ks ds =>
    obtain ⟨kvs, h1, h2, h3⟩ := h
    rw [h1] at z
    cases z
  | dT ks ds =>
    obtain ⟨kvs, h1, h2, h3⟩ := h
    rw [h1] at z
    cases z
  | _ => exact h
/-- f(x), x the frame's own and so still behind the call; what is told is of tuples alone -/
def evCallO (F : FF) (i : Nat) : EF := fun c => match c.r[i]? with
  | some (some (true, d)) => match F [d] c.W with
    | .ret false d' W' => if onlyT d' then .ok .st d' ⟨c.r, W'⟩ else .bad
    | _ => .bad
  | _ => .bad
section
variable {X : Cx} {A : Am} {B : Bs} {E : XS} {Hb H Hb1 H1 : Hp} {σ : List (Option V)} {c c1 : Cfg} {fn : Addr} {fd : FuncData} {ps : List Str}
theorem Sr.calledO {a : Addr} {o : HO} {Hb' H' : Hp} {W' : Wd} (s : Sr A B Hb H σ c) (ha : H a = some o) (hb : Hb a = none) (f : Fin A ⟨upd Hb a o, H, fun _ => False⟩ Hb' H' W') :
    Sr A B (fun p => if p = a then none else Hb' p) H' σ ⟨c.r, W'⟩ ∧ Stp A Hb H (fun p => if p = a then none else Hb' p) H' := by
  have sb : Same Hb (fun p => if p = a then none else Hb' p) := fun p u q => by
    have n : p ≠ a := ne_of_none q hb
    show (if p = a then none else Hb' p) = some u
    rw [if_neg n]
    exact f.b0 p u (by show upd Hb a o p = some u; rw [upd_ne n]; exact q)
  have nn : ∀ p u, Hb p = none → H p = some u → NT u → (if p = a then none else Hb' p) = none := fun p u q1 q2 q3 => by
    by_cases n : p = a
    · rw [if_pos n]
    · rw [if_neg n]
      exact f.nb p u (by show upd Hb a o p = none; rw [upd_ne n]; exact q1) q2 q3
  have lo : ∀ p u, (if p = a then none else Hb' p) = some u → Hb' p = some u := fun p u q => by
    by_cases n : p = a
    · rw [if_pos n] at q; cases q
    · rw [if_neg n] at q; exact q
  refine ⟨⟨⟨⟨fun p u q => f.hr.same p u (lo p u q), fun p ps q => f.hr.notb p ps (lo p _ q), fun w hw => ?_, f.hr.tabs⟩, s.fin.b0.trans sb, s.fin.kp.trans f.kp, fun p o e1 e2 n0 => ?_⟩, s.len, fun i d h => ?_, fun i d h => ?_, s.sep, fun q h => ?_⟩, ⟨sb, f.kp⟩⟩
  · obtain ⟨h1, h2, h3, h4, h5⟩ := f.hr.w w hw
    refine ⟨h1, h2, ?_, ?_, h5⟩
    · show (if w.1 = a then none else Hb' w.1) = none
      rw [h3, ite_self]
    · show (if w.2 = a then none else Hb' w.2) = none
      rw [h4, ite_self]
  · obtain ⟨o', e3, n3⟩ := s.fin.kp.it p o e2 n0
    exact nn p o' (s.fin.nb p o e1 e2 n0) e3 n3
  · obtain ⟨v, h1, h2⟩ := s.sh i d h
    exact ⟨v, h1, Rep.mono sb _ _ h2⟩
  · obtain ⟨b, u, h1, h2, h3, h4, h5, h6⟩ := s.ow i d h
    exact ⟨b, u, h1, f.kp.eq b u h2 h5 h3.notb, h3.mono sb, nn b u h4 h2 h3.notb, h5, h6⟩
  · obtain ⟨⟨u, h1, n1⟩, h2, h3⟩ := s.pr q h
    exact ⟨f.kp.it q u h1 n1, nn q u h2 h1 n1, h3⟩
theorem de_callO {x y : Str} {p pos : Pos} {e : Expr} {i : Nat} {F : FF} (G : Calls X fn fd ps (spD A 1 F)) (hx : PassS X E) (hg : Gl X x) (hm : X.mg x = some (.ref fn)) (hk : PySem.W.keepIn X.K (.ref fn) = true) (hb : Binds X.K fd ps [])
    (hv : PE X e (tVar i)) (hdb : (x == ("__debug__" : Str)) = false := by decide) (he : starEach [e] X.env = (false, eval e X.env) :: starEach [] X.env := by rfl) (hpl : (backTo pos (starEach [] X.env)).any (·.1) = false := by rfl) : DE X A B E (.Call (.Name x p) [e] [] pos) (evCallO F i) :=
  PE.imp (pe_callC G hx hg hm hk hb (pa_cons hv pa_nil he) hdb he hpl) fun σ H Q ⟨Hb, c, s, q⟩ => by
    unfold evCallO at q
    split at q
    · rename_i d e1
      obtain ⟨a, o, h1, h2, h3, h4, h5, h6⟩ := s.ow i d e1
      refine ⟨.ref a, h1, rfl, upd Hb a o, [d], c.W, (s.fin.frz h2 h4 h5 h6 h3.notb).hr, RepL.cons (h3.rep h4) RepL.nil, ?_⟩
      cases e2 : F [d] c.W with
      | ret fr d' W' =>
        rw [e2] at q
        cases fr with
        | true => exact q.elim
        | false =>
          dsimp only at q
          split at q
          · rename_i ho
            intro v Hb' H' f rr
            obtain ⟨s2, t2⟩ := s.calledO h2 h4 f
            refine q v _ H' s2 t2 (Rep.less (fun p xs z => ?_) d' v ho rr)
            show (if p = a then none else Hb' p) = some (.tup xs)
            have ea : Hb' a = some o := f.b0 a o upd_same
            rw [if_neg (ne_of z ea fun y => h3.notup xs y.symm)]
            exact z
          · exact q.elim
      | exc x W => rw [e2] at q; exact q.elim
      | bad => rw [e2] at q; exact q.elim
    · exact q.elim
end
section
variable {Q : QE} {X : QX} {r : List (Option (Bool × D))} {W : Wd} {d d' : D} {i : Nat}
theorem wE_callO {F : FF} {W' : Wd} (h : r[i]? = some (some (true, d))) (e : F [d] W = .ret false d' W') (ho : onlyT d' = true) (q : Q .st d' ⟨r, W'⟩) : wpE (evCallO F i ⟨r, W⟩) Q X := by
  unfold evCallO
  dsimp only
  rw [h]
  dsimp only
  rw [e]
  dsimp only
  rw [if_pos ho]
  exact ⟨q⟩
end
end DL
namespace DL
open PySem PySem.Spec PyProof.Rows L2
section
variable {QL : QA} {X : QX} {c : Cfg} {ga : AF} {ds : List D}
def r3K (QL : QA) (ds : List D) (c : Cfg) : Prop := ∃ i j k, ds = [.int i, .int j, .int k] ∧ rg3Ok i j k = true ∧ QL (rngC i k (Builtin.Range.rangeSize i j k).toNat) c
theorem wA_R3 (h : wpA (ga c) (r3K QL) X) : wpA (evR3 ga c) QL X := by
  unfold evR3
  cases e : ga c with
  | ok ds c1 =>
    rw [e] at h
    obtain ⟨i, j, k, rfl, h1, h2⟩ := h.h
    dsimp only
    rw [if_pos h1]
    exact ⟨h2⟩
  | exc x W => rw [e] at h; exact h
  | bad => rw [e] at h; exact h
theorem down_size {a b : Nat} (h : b ≤ a) : Builtin.Range.rangeSize (a : Int) ((b : Int) - 1) (-1) = ((a - b + 1 : Nat) : Int) := by
  unfold Builtin.Range.rangeSize
  rw [if_neg (by decide), if_pos (by omega), show -(-1 : Int) = 1 from rfl, Int.ediv_one]
  omega
/-- from a down to b -/
theorem rng_down {a b : Nat} (h : b ≤ a) (ha : a < 1000000) (q : QL ((List.range (a - b + 1)).map fun i => D.int ((a - i : Nat) : Int)) c) : r3K QL [.int (a : Int), .int ((b : Int) - 1), .int (-1)] c := by
  refine ⟨_, _, _, rfl, ?_, ?_⟩
  · unfold rg3Ok
    rw [down_size h, decide_eq_true (by decide : (-1 : Int) ≠ 0), decide_eq_true (by decide : (-1 : Int).natAbs < 1073741824), decide_eq_true (by omega : (0 : Int) ≤ ((a - b + 1 : Nat) : Int))]
    unfold Builtin.Range.small
    rw [down_size h]
    have hf : ∀ i : Int, -2000000 ≤ i → i ≤ 2000000 → Builtin.Range.rangeFitsLong i = true := fun i h1 h2 => by
      unfold Builtin.Range.rangeFitsLong
      simp
      omega
    simp [hf _ (show -2000000 ≤ (a : Int) by omega) (by omega), hf _ (show -2000000 ≤ (b : Int) - 1 by omega) (by omega), hf (-1) (by omega) (by omega), hf ((a : Int) - (b : Int) + 1) (by omega) (by omega), hf ((a - b + 1 : Nat) : Int) (by omega) (by omega)]
    try exact hf _ (by omega) (by omega)
  · have e1 : (Builtin.Range.rangeSize (a : Int) ((b : Int) - 1) (-1)).toNat = a - b + 1 := by
      rw [down_size h]
      rfl
    rw [e1]
    have e2 : rngC (a : Int) (-1) (a - b + 1) = (List.range (a - b + 1)).map fun i => D.int ((a - i : Nat) : Int) := by
      unfold rngC
      refine List.map_congr_left fun i hi => ?_
      have := List.mem_range.mp hi
      congr 1
      omega
    rw [e2]
    exact q
end
section
variable {r r1 : List (Option (Bool × D))} {W : Wd} {fe : EF} {Q : QE}
/-- a comprehension each of whose turns draws -/
theorem lc_draw {β : Type} {tgt : D → Cfg → Option Cfg} {vs : List Nat} (f : β → D) (P : β → Prop) {ds : List D} (hl : ds.length ≤ 1000000) (hw : wipeR r vs = r1) (hW : WOk1 W)
    (hs : ∀ d ∈ ds, ∀ W, WOk1 W → wpC (tgt d ⟨r1, W⟩) fun c1 => wpE (fe c1) (fun k d' c3 => k ≠ .bo ∧ (∃ y, d' = f y ∧ P y) ∧ ∃ W', WOk1 W' ∧ Cfg.mrg vs ⟨r, W⟩ c3 = ⟨r, W'⟩) fun _ _ => False)
    (hq : ∀ (ys : List β) (W' : Wd), ys.length = ds.length → (∀ y ∈ ys, P y) → WOk1 W' → Q .fr (.lst (ys.map f)) ⟨r, W'⟩) : lcM tgt vs (evC (.bl true)) fe Q ds ⟨r, W⟩ := by
  have key : ∀ (ds : List D) (acc : List D) (W : Wd), acc.length + ds.length ≤ 1000000 → WOk1 W → (∀ d ∈ ds, ∀ W, WOk1 W → wpC (tgt d ⟨r1, W⟩) fun c1 => wpE (fe c1) (fun k d' c3 => k ≠ .bo ∧ (∃ y, d' = f y ∧ P y) ∧ ∃ W', WOk1 W' ∧ Cfg.mrg vs ⟨r, W⟩ c3 = ⟨r, W'⟩) fun _ _ => False) →
      ∃ (ys : List β) (W' : Wd), goLc tgt vs (evC (.bl true)) fe ds acc ⟨r, W⟩ = .ok (acc ++ ys.map f) ⟨r, W'⟩ ∧ ys.length = ds.length ∧ (∀ y ∈ ys, P y) ∧ WOk1 W' := by
    intro ds
    induction ds with
    | nil => exact fun acc W _ h _ => ⟨[], W, by simp [goLc], rfl, fun y hy => absurd hy List.not_mem_nil, h⟩
    | cons d ds ih =>
      intro acc W hl hW hs
      obtain ⟨c1, e1, q⟩ := hs d List.mem_cons_self W hW
      have hr := fun y hy => hs y (List.mem_cons_of_mem _ hy)
      have hwp : Cfg.wipe ⟨r, W⟩ vs = ⟨r1, W⟩ := by rw [← hw]; rfl
      cases e3 : fe c1 with
      | exc x W => rw [e3] at q; exact q.h.elim
      | bad => rw [e3] at q; exact q.h.elim
      | ok k d' c3 =>
        rw [e3] at q
        obtain ⟨h1, ⟨y, rfl, hy⟩, W', hW', h4⟩ := q.h
        have hb : acc.length < big := by show acc.length < 1000000; simp at hl; omega
        obtain ⟨ys, W2, e4, h5, h6, h7⟩ := ih (acc ++ [f y]) W' (by simp at hl ⊢; omega) hW' hr
        refine ⟨y :: ys, W2, ?_, by simp [h5], fun z hz => ?_, h7⟩
        · unfold goLc
          rw [hwp, e1]
          dsimp only [evC]
          rw [e3]
          cases k with
          | bo => exact absurd rfl h1
          | st =>
            dsimp only
            rw [if_pos hb, h4, e4]
            simp
          | fr =>
            dsimp only
            rw [if_pos hb, h4, e4]
            simp
        · rcases List.mem_cons.mp hz with rfl | hz
          · exact hy
          · exact h6 z hz
  obtain ⟨ys, W', h1, h2, h3, h4⟩ := key ds [] W (by simpa using hl) hW hs
  exact ⟨_, _, h1, hq ys W' h2 h3 h4⟩
end
end DL
namespace DL
open PySem PySem.Spec PyProof.Rows L2
/-! ### a dict of the module: texts to ints -/
structure KdT (K : PySem.W.Frag) (w : World) (d : Addr) (tab : List (Str × Int)) : Prop where
  dk : ∃ es n, KDict K w d es n
  at_ : ∀ z i, tab.lookup z = some i → ∃ u, PySem.W.nsIn K d z = some (some u) ∧ RelV (.int i) u
def gInKd (tab : List (Str × Int)) : D → Option (Kd × D)
  | .str z => if (tab.lookup z).isSome then some (.st, .bl true) else none
  | _ => none
def gNotInKd (tab : List (Str × Int)) : D → Option (Kd × D)
  | .str z => if (tab.lookup z).isSome then some (.st, .bl false) else none
  | _ => none
def gIxKd (tab : List (Str × Int)) : D → Option (Kd × D)
  | .str z => (tab.lookup z).map fun i => (.st, .int i)
  | _ => none
section
variable {X : Cx} {A : Am} {B : Bs} {E : XS} {Hb H Hb1 H1 : Hp} {σ : List (Option V)} {c c1 : Cfg} {fa fb fc ft fe : EF} {d : Addr} {tab : List (Str × Int)} {x : Str} {e : Expr} {p pos : Pos}
theorem look_in {z : Str} (h : (tab.lookup z).isSome = true) : ∃ i, tab.lookup z = some i := Option.isSome_iff_exists.mp h
theorem dt_notInKd (D0 : KdT X.K X.w d tab) (hg : Gl X x) (hm : X.mg x = some (.ref d)) (ha : DE X A B E e fa) (hdb : (x == ("__debug__" : Str)) = false := by decide) (hmk : behindInMarks .NotIn (.Name x p) = false := by rfl) :
    DT X A B E (.Compare e [.NotIn] [.Name x p] pos) (ev1 (gNotInKd tab) fa) := by
  obtain ⟨es, n, kd⟩ := D0.dk
  refine dt_of (PT.imp (pt_cmpR (op_notIn_kd kd) ha (pe_glob (v := .ref d) hg hm rfl hdb) hmk) fun σ H Q z => ?_)
  obtain ⟨Hb, c, s, q⟩ := z
  show rdE A B E fa σ H _
  refine rd_then s q fun k d1 c1 v Hb1 H1 _ s1 t1 k1 q1 => ?_
  unfold gNotInKd at q1
  split at q1
  · rename_i z _
    split at q1
    · rename_i h
      obtain ⟨i, hi⟩ := look_in h
      obtain ⟨u, h1, h2⟩ := D0.at_ z i hi
      exact ⟨z, some u, k1.o.str, rfl, h1, q1 _ Hb1 H1 s1 .refl rk_bl⟩
    · exact False.elim q1
  · exact False.elim q1
theorem de_notInKd (D0 : KdT X.K X.w d tab) (hg : Gl X x) (hm : X.mg x = some (.ref d)) (ha : DE X A B E e fa) (hdb : (x == ("__debug__" : Str)) = false := by decide) (hmk : behindInMarks .NotIn (.Name x p) = false := by rfl) :
    DE X A B E (.Compare e [.NotIn] [.Name x p] pos) (ev1 (gNotInKd tab) fa) := by
  obtain ⟨es, n, kd⟩ := D0.dk
  refine PE.imp (pe_cmpR (op_notIn_kd kd) ha (pe_glob (v := .ref d) hg hm rfl hdb) hmk) fun σ H Q z => ?_
  obtain ⟨Hb, c, s, q⟩ := z
  show rdE A B E fa σ H _
  refine rd_then s q fun k d1 c1 v Hb1 H1 _ s1 t1 k1 q1 => ?_
  unfold gNotInKd at q1
  split at q1
  · rename_i z _
    split at q1
    · rename_i h
      obtain ⟨i, hi⟩ := look_in h
      obtain ⟨u, h1, h2⟩ := D0.at_ z i hi
      exact ⟨z, some u, k1.o.str, rfl, h1, q1 _ Hb1 H1 s1 .refl rk_bl⟩
    · exact False.elim q1
  · exact False.elim q1
theorem de_ixKd (D0 : KdT X.K X.w d tab) (hg : Gl X x) (hm : X.mg x = some (.ref d)) (ha : DE X A B E e fa) (hdb : (x == ("__debug__" : Str)) = false := by decide) (hp : PlainIx e := by intro _ _; rfl) :
    DE X A B E (.Subscript (.Name x p) e pos) (ev1 (gIxKd tab) fa) := by
  obtain ⟨es, n, kd⟩ := D0.dk
  refine PE.imp (pe_ix ix_kdict (pe_glob (v := .ref d) hg hm rfl hdb) ha hp) fun σ H Q z => ?_
  obtain ⟨Hb, c, s, q⟩ := z
  show rdE A B E fa σ H _
  refine rd_then s q fun k d1 c1 v Hb1 H1 _ s1 t1 k1 q1 => ?_
  unfold gIxKd at q1
  split at q1
  · rename_i z _
    cases hl : tab.lookup z with
    | none => rw [hl] at q1; exact False.elim q1
    | some i =>
      rw [hl] at q1
      obtain ⟨u, h1, h2⟩ := D0.at_ z i hl
      exact ⟨d, z, .int i, rfl, k1.o.str, ⟨es, n, u, kd.at_, kd.lit, h1, h2⟩, q1 _ Hb1 H1 s1 .refl rk_int⟩
  · exact False.elim q1
end
end DL
namespace DL
open PySem PySem.Spec PyProof.Rows L2
/-! ### equality of written texts (plain) -/
theorem eqD_SS {x y : Str} (hx : PyData.strOk x = true) (hy : PyData.strOk y = true) : eqD (.str x) (.str y) = some (decide (x = y)) := by
  have sh : ∀ z : Str, PyData.strOk z = true → SeqAt.shaped (.str z) = true := fun z h => by simp [SeqAt.shaped, PyData.canLay0, PyData.depth, h]
  unfold eqD
  rw [py_str, py_str]
  dsimp only
  rw [sh x hx, sh y hy]
  simp [PyData.eqv]
  by_cases h : x = y
  · simp [h]
  · simp [h]
section
variable {QO : Kd → D → Prop} {x y : Str}
theorem wO_eqSt (hx : PyData.strOk x = true) (hy : PyData.strOk y = true) (h : x = y) (q : QO .st (.bl true)) : wpO (gEq (.str x) (.str y)) QO := ⟨_, _, by unfold gEq; rw [eqD_SS hx hy, decide_eq_true h]; rfl, q⟩
theorem wO_eqSf (hx : PyData.strOk x = true) (hy : PyData.strOk y = true) (h : x ≠ y) (q : QO .st (.bl false)) : wpO (gEq (.str x) (.str y)) QO := ⟨_, _, by unfold gEq; rw [eqD_SS hx hy, decide_eq_false h]; rfl, q⟩
end
end DL
namespace DL
open PySem PySem.Spec PyProof.Rows L2
/-! ### in, of a list of one kind (plain) -/
theorem anyL {α : Type} [DecidableEq α] {e : α → D} {k : Nat} (h : Eqv e k) (a : α) {q : PyData} (hq : (e a).py = some q) : ∀ (xs : List α) (ps : List PyData), pyL (xs.map e) = some ps → (ps.any fun z => PyData.eqv z q) = decide (a ∈ xs)
  | [], ps, h1 => by
    rw [List.map_nil, pyL_nil] at h1
    cases h1
    simp
  | x :: xs, ps, h1 => by
    rw [List.map_cons, pyL_cons] at h1
    cases e1 : (e x).py with
    | none => rw [e1] at h1; cases h1
    | some p =>
      rw [e1] at h1
      dsimp only at h1
      cases e2 : pyL (xs.map e) with
      | none => rw [e2] at h1; cases h1
      | some ps' =>
        rw [e2] at h1
        cases h1
        rw [List.any_cons, anyL h a hq xs ps' e2]
        have := h.eq x a p q e1 hq
        by_cases g : x = a
        · rw [this.mpr g, g]
          simp
        · have hf : PyData.eqv p q = false := by
            cases hh : PyData.eqv p q with
            | false => rfl
            | true => exact absurd (this.mp hh) g
          rw [hf, Bool.false_or]
          by_cases g2 : a ∈ xs
          · rw [decide_eq_true g2, decide_eq_true (List.mem_cons_of_mem _ g2)]
          · rw [decide_eq_false g2, decide_eq_false]
            intro z
            rcases List.mem_cons.mp z with z | z
            · exact g z.symm
            · exact g2 z
theorem gIn_of {α : Type} [DecidableEq α] {e : α → D} {k : Nat} (h : Eqv e k) (hk : k ≤ 60) (a : α) (xs : List α) : gIn (e a) (.lst (xs.map e)) = some (.st, .bl (decide (a ∈ xs))) := by
  obtain ⟨p, h1, h2⟩ := gd_shaped (gd_lst (k := k) (ds := xs.map e) (gd_map h.gd xs)) (by omega)
  obtain ⟨q, h3, h4⟩ := gd_shaped (h.gd a) (by omega)
  have h5 : ∃ ps, p = .list ps ∧ pyL (xs.map e) = some ps := by
    rw [py_lst] at h1
    cases e2 : pyL (xs.map e) with
    | none => rw [e2] at h1; cases h1
    | some ps => rw [e2] at h1; cases h1; exact ⟨ps, rfl, rfl⟩
  obtain ⟨ps, rfl, h6⟩ := h5
  unfold gIn inD
  dsimp only
  rw [h1, h3]
  dsimp only
  rw [h2, h4, anyL h a h3 xs ps h6]
  rfl
end DL
namespace DL.K56
open PySem PySem.Spec PyProof.Rows L2 DL
def tab_COUNTS : List (Str × Int) := [("swap", 4), ("turn", 3), ("reverse", 2), ("deal", 3), ("stride", 3)]
/-- is_integer: 0 value -/
def f_is_integer : SF := (sRet (evAnd (ev1 (gIsi [.int]) (evB 0)) (evNot (ev1 (gIsi [.bool]) (evB 0)))))
def F_is_integer : FF := runD 1 f_is_integer
/-- is_number: 0 value -/
def f_is_number : SF := (sRet (evAnd (evCall 1 F_is_integer (evCons (evV 0) evNil)) (ev2 gGe (evB 0) (evC (.int 0)))))
def F_is_number : FF := runD 1 f_is_number
/-- is_sequence: 0 value -/
def f_is_sequence : SF := (sRet (ev1 (gIsi [.list, .tuple]) (evB 0)))
def F_is_sequence : FF := runD 1 f_is_sequence
/-- is_index: 0 value, 1 many -/
def f_is_index : SF := (sRet (evAnd (evCall 1 F_is_number (evCons (evV 0) evNil)) (ev2 gLt (evB 0) (evB 1))))
def F_is_index : FF := runD 2 f_is_index
/-- divisor: 0 one, 1 other -/
def f_divisor : SF := (sSeq (sWhile (fuI 1) (ev2 gGt (evB 1) (evC (.int 0))) (sParK 0 1 (evV 1) (ev2 gMod (ev1 gInt (evB 0)) (evB 1)))) (sRet (evM 0)))
def F_divisor : FF := runD 2 f_divisor
/-- size_of: 0 move -/
def f_size_of : SF := (sSeq (sIf (ev2 gEq (ev2 gIx (evB 0) (evC (.int 0))) (evC (.str "swap"))) (sRet (ev2 gAdd (ev2 gAdd (ev2 gIx (evB 0) (evC (.int 2))) (ev2 gIx (evB 0) (evC (.int 3)))) (ev2 gIx (evB 0) (evC (.int 4))))) sNil) (sSeq (sIf (ev2 gEq (ev2 gIx (evB 0) (evC (.int 0))) (evC (.str "deal"))) (sRet (ev2 gMul (ev2 gIx (evB 0) (evC (.int 2))) (ev2 gIx (evB 0) (evC (.int 3))))) sNil) (sRet (ev2 gIx (evB 0) (evC (.int 2))))))
def F_size_of : FF := runD 1 f_size_of
/-- is_move: 0 places, 1 value, 2 number -/
def f_is_move : SF := (sSeq (sIf (evOr (evNot (evTru (evCall 1 F_is_sequence (evCons (evV 1) evNil)))) (evOr (ev2 gEq (ev1 gLen (evB 1)) (evC (.int 0))) (evOr (evNot (evTru (ev1 (gIsi [.str]) (ev2 gIx (evB 1) (evC (.int 0)))))) (ev1 (gNotInKd tab_COUNTS) (ev2 gIx (evB 1) (evC (.int 0))))))) (sRet (evC (.bl false))) sNil) (sSeq (sIf (evOr (ev2 gNe (ev1 gLen (evB 1)) (ev2 gAdd (evC (.int 1)) (ev1 (gIxKd tab_COUNTS) (ev2 gIx (evB 1) (evC (.int 0)))))) (evNot (evTru (ev1 gAll (evLc (evIt (evSl (evB 1) (evOS (evC (.int 1))) evON)) (tgN 2) [2] (evC (.bl true)) (evCall 1 F_is_number (evCons (evV 2) evNil))))))) (sRet (evC (.bl false))) sNil) (sSeq (sIf (evOr (ev2 gLt (ev2 gIx (evB 1) (evC (.int 2))) (evC (.int 1))) (evOr (evAnd (ev2 gEq (ev2 gIx (evB 1) (evC (.int 0))) (evC (.str "swap"))) (ev2 gLt (ev2 gIx (evB 1) (evC (.int 4))) (evC (.int 1)))) (evAnd (ev2 gEq (ev2 gIx (evB 1) (evC (.int 0))) (evC (.str "deal"))) (ev2 gLt (ev2 gIx (evB 1) (evC (.int 3))) (evC (.int 1)))))) (sRet (evC (.bl false))) sNil) (sSeq (sIf (evAnd (ev2 gEq (ev2 gIx (evB 1) (evC (.int 0))) (evC (.str "stride"))) (ev2 gNe (evCall 2 F_divisor (evCons (ev2 gIx (evB 1) (evC (.int 2))) (evCons (ev2 gIx (evB 1) (evC (.int 3))) evNil))) (evC (.int 1)))) (sRet (evC (.bl false))) sNil) (sRet (ev2 gLe (ev2 gAdd (ev2 gIx (evB 1) (evC (.int 1))) (evCall 1 F_size_of (evCons (evV 1) evNil))) (evB 0)))))))
def F_is_move : FF := runD 3 f_is_move
/-- checked_moves: 0 places, 1 value, 2 at, 3 move -/
def f_checked_moves : SF := (sSeq (sIf (evNot (evTru (evCall 1 F_is_sequence (evCons (evV 1) evNil)))) (sRaise 0 (evC (.int 0))) sNil) (sSeq (sFor (evEn (evCons (evV 1) evNil)) (tgTup 2 (tgCons (tgN 2) (tgCons (tgN 3) tgNil))) (sIf (evNot (evTru (evCall 2 F_is_move (evCons (evV 0) (evCons (evV 3) evNil))))) (sRaise 0 (evV 2)) sNil)) (sRet (ev1 gTuple (evLc (evIt (evV 1)) (tgN 3) [3] (evC (.bl true)) (ev1 gTuple (evB 3)))))))
def F_checked_moves : FF := runD 4 f_checked_moves
/-- moved: 0 move, 1 place, 2 at, 3 i -/
def f_moved : SF := (sSeq (sParK 2 3 (ev2 gIx (evB 0) (evC (.int 1))) (ev2 gSubI (evB 1) (ev2 gIx (evB 0) (evC (.int 1))))) (sSeq (sIf (evOr (ev2 gLt (evB 3) (evC (.int 0))) (ev2 gGe (evB 3) (evCall 1 F_size_of (evCons (evV 0) evNil)))) (sRet (evM 1)) sNil) (sSeq (sIf (ev2 gEq (ev2 gIx (evB 0) (evC (.int 0))) (evC (.str "swap"))) (sSeq (sIf (ev2 gLt (evB 3) (ev2 gIx (evB 0) (evC (.int 2)))) (sRet (ev2 gAdd (ev2 gAdd (evB 1) (ev2 gIx (evB 0) (evC (.int 3)))) (ev2 gIx (evB 0) (evC (.int 4))))) sNil) (sRet (evIf (ev2 gLt (evB 3) (ev2 gAdd (ev2 gIx (evB 0) (evC (.int 2))) (ev2 gIx (evB 0) (evC (.int 3))))) (ev2 gSubI (ev2 gAdd (evB 1) (ev2 gIx (evB 0) (evC (.int 4)))) (ev2 gIx (evB 0) (evC (.int 2)))) (ev2 gSubI (ev2 gSubI (evB 1) (ev2 gIx (evB 0) (evC (.int 2)))) (ev2 gIx (evB 0) (evC (.int 3))))))) sNil) (sSeq (sIf (ev2 gEq (ev2 gIx (evB 0) (evC (.int 0))) (evC (.str "turn"))) (sRet (ev2 gAdd (evB 2) (ev2 gMod (ev2 gAdd (evB 3) (ev2 gIx (evB 0) (evC (.int 3)))) (ev2 gIx (evB 0) (evC (.int 2)))))) sNil) (sSeq (sIf (ev2 gEq (ev2 gIx (evB 0) (evC (.int 0))) (evC (.str "reverse"))) (sRet (ev2 gSubI (ev2 gSubI (ev2 gAdd (evB 2) (ev2 gIx (evB 0) (evC (.int 2)))) (evC (.int 1))) (evB 3))) sNil) (sSeq (sIf (ev2 gEq (ev2 gIx (evB 0) (evC (.int 0))) (evC (.str "deal"))) (sRet (ev2 gAdd (ev2 gAdd (evB 2) (ev2 gMul (ev2 gMod (evB 3) (ev2 gIx (evB 0) (evC (.int 3)))) (ev2 gIx (evB 0) (evC (.int 2))))) (ev2 gFdiv (evB 3) (ev2 gIx (evB 0) (evC (.int 3)))))) sNil) (sRet (ev2 gAdd (evB 2) (ev2 gMod (ev2 gMul (evB 3) (ev2 gIx (evB 0) (evC (.int 3)))) (ev2 gIx (evB 0) (evC (.int 2))))))))))))
def F_moved : FF := runD 4 f_moved
/-- led: 0 moves, 1 place, 2 move -/
def f_led : SF := (sSeq (sFor (evIt (evV 0)) (tgN 2) (sSet 1 (evCall 2 F_moved (evCons (evV 2) (evCons (evV 1) evNil))))) (sRet (evM 1)))
def F_led : FF := runD 3 f_led
/-- place_after: 0 places, 1 moves, 2 place, 3 checked -/
def f_place_after : SF := (sSeq (sSet 3 (evCall 2 F_checked_moves (evCons (evV 0) (evCons (evV 1) evNil)))) (sSeq (sIf (evNot (evTru (evCall 2 F_is_index (evCons (evV 2) (evCons (evV 0) evNil))))) (sRaise 1 (evC (.int 0))) sNil) (sRet (evCall 2 F_led (evCons (evV 3) (evCons (evV 2) evNil))))))
def F_place_after : FF := runD 4 f_place_after
/-- spread: 0 places, 1 moves, 2 checked, 3 place -/
def f_spread : SF := (sSeq (sSet 2 (evCall 2 F_checked_moves (evCons (evV 0) (evCons (evV 1) evNil)))) (sRet (ev1 gTuple (evLc (evR1 (evB 0)) (tgN 3) [3] (evC (.bl true)) (evCall 2 F_led (evCons (evV 2) (evCons (evV 3) evNil)))))))
def F_spread : FF := runD 4 f_spread
/-- inverse: 0 number, 1 many, 2 one, 3 other, 4 times -/
def f_inverse : SF := (sSeq (sParK 2 3 (evTup (evCons (evV 1) (evCons (evC (.int 0)) evNil))) (evTup (evCons (ev2 gMod (evB 0) (evB 1)) (evCons (evC (.int 1)) evNil)))) (sSeq (sWhile (fun _ => 1000000000000000000000) (ev2 gGt (ev2 gIx (evB 3) (evC (.int 0))) (evC (.int 0))) (sSeq (sSet 4 (ev2 gFdiv (ev2 gIx (evB 2) (evC (.int 0))) (ev2 gIx (evB 3) (evC (.int 0))))) (sParK 2 3 (evV 3) (evTup (evCons (ev2 gSubI (ev2 gIx (evB 2) (evC (.int 0))) (ev2 gMul (evB 4) (ev2 gIx (evB 3) (evC (.int 0))))) (evCons (ev2 gSubI (ev2 gIx (evB 2) (evC (.int 1))) (ev2 gMul (evB 4) (ev2 gIx (evB 3) (evC (.int 1))))) evNil)))))) (sRet (ev2 gMod (ev2 gIx (evB 2) (evC (.int 1))) (evB 1)))))
def F_inverse : FF := runD 5 f_inverse
/-- undone: 0 move -/
def f_undone : SF := (sSeq (sIf (ev2 gEq (ev2 gIx (evB 0) (evC (.int 0))) (evC (.str "swap"))) (sRet (evTup (evCons (ev2 gIx (evB 0) (evC (.int 0))) (evCons (ev2 gIx (evB 0) (evC (.int 1))) (evCons (ev2 gIx (evB 0) (evC (.int 4))) (evCons (ev2 gIx (evB 0) (evC (.int 3))) (evCons (ev2 gIx (evB 0) (evC (.int 2))) evNil))))))) sNil) (sSeq (sIf (ev2 gEq (ev2 gIx (evB 0) (evC (.int 0))) (evC (.str "turn"))) (sRet (evTup (evCons (ev2 gIx (evB 0) (evC (.int 0))) (evCons (ev2 gIx (evB 0) (evC (.int 1))) (evCons (ev2 gIx (evB 0) (evC (.int 2))) (evCons (ev2 gMod (evNeg (ev2 gIx (evB 0) (evC (.int 3)))) (ev2 gIx (evB 0) (evC (.int 2)))) evNil)))))) sNil) (sSeq (sIf (ev2 gEq (ev2 gIx (evB 0) (evC (.int 0))) (evC (.str "deal"))) (sRet (evTup (evCons (ev2 gIx (evB 0) (evC (.int 0))) (evCons (ev2 gIx (evB 0) (evC (.int 1))) (evCons (ev2 gIx (evB 0) (evC (.int 3))) (evCons (ev2 gIx (evB 0) (evC (.int 2))) evNil)))))) sNil) (sRet (evIf (ev2 gEq (ev2 gIx (evB 0) (evC (.int 0))) (evC (.str "reverse"))) (evM 0) (evTup (evCons (ev2 gIx (evB 0) (evC (.int 0))) (evCons (ev2 gIx (evB 0) (evC (.int 1))) (evCons (ev2 gIx (evB 0) (evC (.int 2))) (evCons (evCall 2 F_inverse (evCons (ev2 gIx (evB 0) (evC (.int 3))) (evCons (ev2 gIx (evB 0) (evC (.int 2))) evNil))) evNil))))))))))
def F_undone : FF := runD 1 f_undone
/-- undoing: 0 places, 1 moves, 2 move -/
def f_undoing : SF := (sRet (ev1 gTuple (evLc (evIt (ev1 gRev (evCall 2 F_checked_moves (evCons (evV 0) (evCons (evV 1) evNil))))) (tgN 2) [2] (evC (.bl true)) (evCall 1 F_undone (evCons (evV 2) evNil)))))
def F_undoing : FF := runD 3 f_undoing
/-- _law_of: 0 deal, 1 some -/
def f__law_of : SF := (sRet (ev2 gIx (evB 1) (evCall 2 F__law_any (evCons (evV 0) (evCons (ev1 gLen (evB 1)) evNil)))))
def F__law_of : FF := runD 2 f__law_of
/-- _law_large: 0 deal, 1 bound, 2 found, 3 turn -/
def f__law_large : SF := (sSeq (sIf (ev2 gLe (evB 1) (evC (.int 1000000))) (sRet (evCall 2 F__law_any (evCons (evV 0) (evCons (evV 1) evNil)))) sNil) (sSeq (sSet 2 (evC (.int 0))) (sSeq (sFor (evR1 (evC (.int 3))) (tgN 3) (sSet 2 (ev2 gAdd (ev2 gMul (evB 2) (evC (.int 1000000))) (evCall 2 F__law_any (evCons (evV 0) (evCons (evC (.int 1000000)) evNil)))))) (sRet (ev2 gMod (ev1 gInt (evB 2)) (evB 1))))))
def F__law_large : FF := runD 4 f__law_large
/-- _law_some: 0 deal, 1 bound, 2 form -/
def f__law_some : SF := (sSeq (sSet 2 (evCall 2 F__law_any (evCons (evV 0) (evCons (evC (.int 4)) evNil)))) (sSeq (sIf (ev2 gEq (evB 2) (evC (.int 0))) (sRet (ev2 gMin2 (ev2 gSubI (evB 1) (evC (.int 1))) (evCall 2 F__law_any (evCons (evV 0) (evCons (evC (.int 4)) evNil))))) sNil) (sSeq (sIf (ev2 gEq (evB 2) (evC (.int 1))) (sRet (ev2 gMax2 (evC (.int 0)) (ev2 gSubI (ev2 gSubI (evB 1) (evC (.int 1))) (evCall 2 F__law_any (evCons (evV 0) (evCons (evC (.int 3)) evNil)))))) sNil) (sRet (evCall 2 F__law_large (evCons (evV 0) (evCons (evV 1) evNil)))))))
def F__law_some : FF := runD 3 f__law_some
/-- _law_divisor: 0 one, 1 other -/
def f__law_divisor : SF := (sSeq (sWhile (fuI 1) (ev2 gGt (evB 1) (evC (.int 0))) (sParK 0 1 (evV 1) (ev2 gMod (ev1 gInt (evB 0)) (evB 1)))) (sRet (evM 0)))
def F__law_divisor : FF := runD 2 f__law_divisor
/-- _law_move: 0 deal, 1 places, 2 names, 3 name, 4 single, 5 at, 6 room, 7 u, 8 v, 9 w, 10 r, 11 c, 12 n, 13 a, 14 turn, 15 move -/
def f__law_move : SF := (sSeq (sSet 3 (evCall 2 F__law_of (evCons (evV 0) (evCons (evV 2) evNil)))) (sSeq (sIf (ev2 gEq (evB 1) (evC (.int 1))) (sSeq (sSet 4 (evLst (evCons (evTup (evCons (evC (.str "reverse")) (evCons (evC (.int 0)) (evCons (evC (.int 1)) evNil)))) (evCons (evTup (evCons (evC (.str "turn")) (evCons (evC (.int 0)) (evCons (evC (.int 1)) (evCons (evC (.int 3)) evNil))))) (evCons (evTup (evCons (evC (.str "deal")) (evCons (evC (.int 0)) (evCons (evC (.int 1)) (evCons (evC (.int 1)) evNil))))) (evCons (evTup (evCons (evC (.str "stride")) (evCons (evC (.int 0)) (evCons (evC (.int 1)) (evCons (evC (.int 0)) evNil))))) evNil)))))) (sRet (evCall 2 F__law_of (evCons (evV 0) (evCons (evLc (evIt (evV 4)) (tgN 15) [15] (ev2 gIn (ev2 gIx (evB 15) (evC (.int 0))) (evB 2)) (evV 15)) evNil))))) sNil) (sSeq (sSet 5 (evCall 2 F__law_some (evCons (evV 0) (evCons (ev2 gSubI (evB 1) (evC (.int 1))) evNil)))) (sSeq (sSet 6 (ev2 gSubI (evB 1) (evB 5))) (sSeq (sIf (ev2 gEq (evB 3) (evC (.str "swap"))) (sSeq (sSet 7 (ev2 gAdd (evC (.int 1)) (evCall 2 F__law_some (evCons (evV 0) (evCons (ev2 gSubI (evB 6) (evC (.int 1))) evNil))))) (sSeq (sSet 8 (ev2 gAdd (evC (.int 1)) (evCall 2 F__law_some (evCons (evV 0) (evCons (ev2 gSubI (evB 6) (evB 7)) evNil))))) (sSeq (sSet 9 (evIf (ev2 gEq (evCall 2 F__law_any (evCons (evV 0) (evCons (evC (.int 2)) evNil))) (evC (.int 0))) (evCall 2 F__law_some (evCons (evV 0) (evCons (ev2 gAdd (ev2 gSubI (ev2 gSubI (evB 6) (evB 7)) (evB 8)) (evC (.int 1))) evNil))) (evC (.int 0)))) (sRet (evTup (evCons (evV 3) (evCons (evV 5) (evCons (evV 7) (evCons (evV 9) (evCons (evV 8) evNil)))))))))) sNil) (sSeq (sIf (ev2 gEq (evB 3) (evC (.str "deal"))) (sSeq (sSet 10 (ev2 gAdd (evC (.int 1)) (evCall 2 F__law_any (evCons (evV 0) (evCons (ev2 gMin2 (evB 6) (evCall 2 F__law_of (evCons (evV 0) (evCons (evLst (evCons (evC (.int 3)) (evCons (evC (.int 8)) (evCons (evC (.int 1000)) evNil)))) evNil)))) evNil))))) (sSeq (sSet 11 (ev2 gAdd (evC (.int 1)) (evCall 2 F__law_some (evCons (evV 0) (evCons (ev2 gFdiv (evB 6) (evB 10)) evNil))))) (sRet (evIf (ev2 gEq (evCall 2 F__law_any (evCons (evV 0) (evCons (evC (.int 2)) evNil))) (evC (.int 0))) (evTup (evCons (evV 3) (evCons (evV 5) (evCons (evV 10) (evCons (evV 11) evNil))))) (evTup (evCons (evV 3) (evCons (evV 5) (evCons (evV 11) (evCons (evV 10) evNil))))))))) sNil) (sSeq (sSet 12 (ev2 gAdd (evC (.int 1)) (evCall 2 F__law_some (evCons (evV 0) (evCons (evV 6) evNil))))) (sSeq (sIf (ev2 gEq (evB 3) (evC (.str "reverse"))) (sRet (evTup (evCons (evV 3) (evCons (evV 5) (evCons (evV 12) evNil))))) sNil) (sSeq (sSet 13 (evCall 2 F__law_some (evCons (evV 0) (evCons (ev2 gAdd (ev2 gMul (evC (.int 2)) (evB 12)) (evC (.int 1))) evNil)))) (sSeq (sIf (ev2 gEq (evB 3) (evC (.str "turn"))) (sRet (evTup (evCons (evV 3) (evCons (evV 5) (evCons (evV 12) (evCons (evV 13) evNil)))))) sNil) (sSeq (sFor (evR1 (evC (.int 40))) (tgN 14) (sSeq (sIf (ev2 gEq (evCall 2 F__law_divisor (evCons (evV 13) (evCons (evV 12) evNil))) (evC (.int 1))) sBrk sNil) (sSet 13 (ev2 gAdd (evB 13) (evC (.int 1)))))) (sRet (evTup (evCons (evV 3) (evCons (evV 5) (evCons (evV 12) (evCons (evIf (ev2 gEq (evCall 2 F__law_divisor (evCons (evV 13) (evCons (evV 12) evNil))) (evC (.int 1))) (evV 13) (evC (.int 1))) evNil)))))))))))))))))
def F__law_move : FF := runD 16 f__law_move
/-- _law_size: 0 move -/
def f__law_size : SF := (sSeq (sIf (ev2 gEq (ev2 gIx (evB 0) (evC (.int 0))) (evC (.str "swap"))) (sRet (ev2 gAdd (ev2 gAdd (ev2 gIx (evB 0) (evC (.int 2))) (ev2 gIx (evB 0) (evC (.int 3)))) (ev2 gIx (evB 0) (evC (.int 4))))) sNil) (sRet (evIf (ev2 gEq (ev2 gIx (evB 0) (evC (.int 0))) (evC (.str "deal"))) (ev2 gMul (ev2 gIx (evB 0) (evC (.int 2))) (ev2 gIx (evB 0) (evC (.int 3)))) (ev2 gIx (evB 0) (evC (.int 2))))))
def F__law_size : FF := runD 1 f__law_size
/-- _law_goes: 0 move, 1 place, 2 at, 3 i, 4 name, 5 u, 6 w, 7 v -/
def f__law_goes : SF := (sSeq (sParK 2 3 (ev2 gIx (evB 0) (evC (.int 1))) (ev2 gSubI (evB 1) (ev2 gIx (evB 0) (evC (.int 1))))) (sSeq (sIf (evOr (ev2 gLt (evB 3) (evC (.int 0))) (ev2 gGe (evB 3) (evCall 1 F__law_size (evCons (evV 0) evNil)))) (sRet (evM 1)) sNil) (sSeq (sIf (ev2 gEq (ev2 gIx (evB 0) (evC (.int 0))) (evC (.str "swap"))) (sSeq (sAsg (tgTup 5 (tgCons (tgN 4) (tgCons (tgN 2) (tgCons (tgN 5) (tgCons (tgN 6) (tgCons (tgN 7) tgNil)))))) (evV 0)) (sSeq (sIf (ev2 gLt (evB 3) (evB 5)) (sRet (ev2 gAdd (ev2 gAdd (ev2 gAdd (evB 2) (evB 7)) (evB 6)) (evB 3))) sNil) (sRet (evIf (ev2 gLt (evB 3) (ev2 gAdd (evB 5) (evB 6))) (ev2 gAdd (ev2 gAdd (evB 2) (evB 7)) (ev2 gSubI (evB 3) (evB 5))) (ev2 gAdd (evB 2) (ev2 gSubI (ev2 gSubI (evB 3) (evB 5)) (evB 6))))))) sNil) (sSeq (sIf (ev2 gEq (ev2 gIx (evB 0) (evC (.int 0))) (evC (.str "turn"))) (sRet (ev2 gAdd (evB 2) (ev2 gMod (ev1 gInt (ev2 gAdd (evB 3) (ev2 gIx (evB 0) (evC (.int 3))))) (ev2 gIx (evB 0) (evC (.int 2)))))) sNil) (sSeq (sIf (ev2 gEq (ev2 gIx (evB 0) (evC (.int 0))) (evC (.str "reverse"))) (sRet (ev2 gSubI (ev2 gSubI (ev2 gAdd (evB 2) (ev2 gIx (evB 0) (evC (.int 2)))) (evC (.int 1))) (evB 3))) sNil) (sSeq (sIf (ev2 gEq (ev2 gIx (evB 0) (evC (.int 0))) (evC (.str "deal"))) (sRet (ev2 gAdd (ev2 gAdd (evB 2) (ev2 gMul (ev2 gMod (ev1 gInt (evB 3)) (ev2 gIx (evB 0) (evC (.int 3)))) (ev2 gIx (evB 0) (evC (.int 2))))) (ev2 gFdiv (evB 3) (ev2 gIx (evB 0) (evC (.int 3)))))) sNil) (sRet (ev2 gAdd (evB 2) (ev2 gMod (ev1 gInt (ev2 gMul (evB 3) (ev2 gIx (evB 0) (evC (.int 3))))) (ev2 gIx (evB 0) (evC (.int 2))))))))))))
def F__law_goes : FF := runD 8 f__law_goes
/-- _law_led: 0 moves, 1 place, 2 move -/
def f__law_led : SF := (sSeq (sFor (evIt (evV 0)) (tgN 2) (sSet 1 (evCall 2 F__law_goes (evCons (evV 2) (evCons (evV 1) evNil))))) (sRet (evM 1)))
def F__law_led : FF := runD 3 f__law_led
/-- _law_done: 0 moves, 1 places, 2 row, 3 move, 4 at, 5 size, 6 part, 7 name, 8 u, 9 w, 10 v, 11 later, 12 shift, 13 r, 14 c, 15 i, 16 entry, 17 p, 18 place, 19 k -/
def f__law_done : SF := (sSeq (sSet 2 (evLRg (evB 1))) (sSeq (sFor (evIt (evV 0)) (tgN 3) (sSeq (sParK 4 5 (ev2 gIx (evB 3) (evC (.int 1))) (evCall 1 F__law_size (evCons (evV 3) evNil))) (sSeq (sSet 6 (evSl (evB 2) (evOS (evB 4)) (evOS (ev2 gAdd (evB 4) (evB 5))))) (sSeq (sIf (ev2 gEq (ev2 gIx (evB 3) (evC (.int 0))) (evC (.str "swap"))) (sSeq (sAsg (tgTup 5 (tgCons (tgN 7) (tgCons (tgN 4) (tgCons (tgN 8) (tgCons (tgN 9) (tgCons (tgN 10) tgNil)))))) (evV 3)) (sSet 11 (ev2 gAdd (ev2 gAdd (evSl (evB 6) (evOS (ev2 gAdd (evB 8) (evB 9))) evON) (evSl (evB 6) (evOS (evB 8)) (evOS (ev2 gAdd (evB 8) (evB 9))))) (evSl (evB 6) evON (evOS (evB 8)))))) (sIf (ev2 gEq (ev2 gIx (evB 3) (evC (.int 0))) (evC (.str "turn"))) (sSeq (sSet 12 (ev2 gMod (ev1 gInt (ev2 gIx (evB 3) (evC (.int 3)))) (evB 5))) (sSet 11 (ev2 gAdd (evSl (evB 6) (evOS (ev2 gSubI (evB 5) (evB 12))) evON) (evSl (evB 6) evON (evOS (ev2 gSubI (evB 5) (evB 12))))))) (sIf (ev2 gEq (ev2 gIx (evB 3) (evC (.int 0))) (evC (.str "reverse"))) (sSet 11 (ev1 gRev (evB 6))) (sIf (ev2 gEq (ev2 gIx (evB 3) (evC (.int 0))) (evC (.str "deal"))) (sSeq (sParK 13 14 (ev2 gIx (evB 3) (evC (.int 2))) (ev2 gIx (evB 3) (evC (.int 3)))) (sSet 11 (evLc (evR1 (evB 5)) (tgN 19) [19] (evC (.bl true)) (ev2 gIx (evB 6) (ev2 gAdd (ev2 gMul (ev2 gMod (ev1 gInt (evB 19)) (evB 13)) (evB 14)) (ev2 gFdiv (evB 19) (evB 13))))))) (sSeq (sSet 11 (ev2 gMul (evLst (evCons (evC (.int 0)) evNil)) (evB 5))) (sFor (evEn (evCons (evV 6) evNil)) (tgTup 2 (tgCons (tgN 15) (tgCons (tgN 16) tgNil))) (sPutI 11 (ev2 gMod (ev1 gInt (ev2 gMul (evB 15) (ev2 gIx (evB 3) (evC (.int 3))))) (evB 5)) (evV 16)))))))) (sSet 2 (ev2 gAdd (ev2 gAdd (evSl (evB 2) evON (evOS (evB 4))) (evB 11)) (evSl (evB 2) (evOS (ev2 gAdd (evB 4) (evB 5))) evON))))))) (sSeq (sSet 17 (ev2 gMul (evLst (evCons (evC (.int 0)) evNil)) (evB 1))) (sSeq (sFor (evEn (evCons (evV 2) evNil)) (tgTup 2 (tgCons (tgN 18) (tgCons (tgN 16) tgNil))) (sPutI 17 (evB 16) (evV 18))) (sRet (ev1 gTuple (evB 17)))))))
def F__law_done : FF := runD 20 f__law_done
/-- _law_undone: 0 move, 1 told, 2 one -/
def f__law_undone : SF := (sSeq (sIf (evOr (evNot (evTru (ev1 (gIsi [.tuple]) (evB 1)))) (evOr (ev2 gNe (ev1 gLen (evB 1)) (ev1 gLen (evB 0))) (ev2 gNe (evSl (evB 1) evON (evOS (evC (.int 2)))) (evSl (evB 0) evON (evOS (evC (.int 2))))))) (sRet (evC (.bl false))) sNil) (sSeq (sIf (ev2 gNe (evLc (evIt (evSl (evB 1) (evOS (evC (.int 1))) evON)) (tgN 2) [2] (evOr (evNot (evTru (ev1 (gIsi [.int]) (evB 2)))) (evTru (ev1 (gIsi [.bool]) (evB 2)))) (evV 2)) (evLst evNil)) (sRet (evC (.bl false))) sNil) (sSeq (sIf (ev2 gEq (ev2 gIx (evB 0) (evC (.int 0))) (evC (.str "swap"))) (sRet (ev2 gEq (evSl (evB 1) (evOS (evC (.int 2))) evON) (evTup (evCons (ev2 gIx (evB 0) (evC (.int 4))) (evCons (ev2 gIx (evB 0) (evC (.int 3))) (evCons (ev2 gIx (evB 0) (evC (.int 2))) evNil)))))) sNil) (sSeq (sIf (ev2 gEq (ev2 gIx (evB 0) (evC (.int 0))) (evC (.str "deal"))) (sRet (ev2 gEq (evSl (evB 1) (evOS (evC (.int 2))) evON) (evTup (evCons (ev2 gIx (evB 0) (evC (.int 3))) (evCons (ev2 gIx (evB 0) (evC (.int 2))) evNil))))) sNil) (sSeq (sIf (ev2 gEq (ev2 gIx (evB 0) (evC (.int 0))) (evC (.str "reverse"))) (sRet (ev2 gEq (evB 1) (evB 0))) sNil) (sSeq (sIf (evOr (ev2 gNe (ev2 gIx (evB 1) (evC (.int 2))) (ev2 gIx (evB 0) (evC (.int 2)))) (evNot (ev3 gLe gLt (evC (.int 0)) (ev2 gIx (evB 1) (evC (.int 3))) (ev2 gIx (evB 0) (evC (.int 2)))))) (sRet (evC (.bl false))) sNil) (sSeq (sIf (ev2 gEq (ev2 gIx (evB 0) (evC (.int 0))) (evC (.str "turn"))) (sRet (ev2 gEq (ev2 gMod (ev1 gInt (ev2 gAdd (ev2 gIx (evB 0) (evC (.int 3))) (ev2 gIx (evB 1) (evC (.int 3))))) (ev2 gIx (evB 0) (evC (.int 2)))) (evC (.int 0)))) sNil) (sRet (ev2 gEq (ev2 gMod (ev1 gInt (ev2 gSubI (ev2 gMul (ev2 gIx (evB 0) (evC (.int 3))) (ev2 gIx (evB 1) (evC (.int 3)))) (evC (.int 1)))) (ev2 gIx (evB 0) (evC (.int 2)))) (evC (.int 0)))))))))))
def F__law_undone : FF := runD 3 f__law_undone
/-- _law_refused: 0 places, 1 moves, 2 place, 3 e -/
def f__law_refused : SF := (sSeq (sTry 3 (tabM [some true, some false]) (sSeq (sDrop (evCall 3 F_place_after (evCons (evV 0) (evCons (evLst (evCons (evTup (evCons (evC (.str "reverse")) (evCons (evC (.int 0)) (evCons (ev2 gAdd (evB 0) (evC (.int 1))) evNil)))) evNil)) (evCons (evV 2) evNil))))) (sRet (evC (.bl false)))) (sIf (ev2 gNe (ev1 gRep (evErrAt (fun i => Nat.blt i 2) (evB 3))) (evC (.str "0"))) (sRet (evC (.bl false))) sNil)) (sTry 3 (tabM [some false, some true]) (sSeq (sDrop (evCall 3 F_place_after (evCons (evV 0) (evCons (evV 1) (evCons (evV 2) evNil))))) (sRet (evC (.bl false)))) (sRet (ev2 gEq (ev1 gRep (evErrAt (fun i => Nat.blt i 2) (evB 3))) (evC (.str "0"))))))
def F__law_refused : FF := runD 4 f__law_refused
/-- _law_led_right: 0 places, 1 moves, 2 backs, 3 place, 4 due -/
def f__law_led_right : SF := (sSeq (sSet 4 (evCall 2 F__law_led (evCons (evV 1) (evCons (evV 3) evNil)))) (sSeq (sIf (ev2 gNe (ev1 gRep (evCall 3 F_place_after (evCons (evV 0) (evCons (evV 1) (evCons (evV 3) evNil))))) (ev1 gRep (evB 4))) (sRet (evC (.bl false))) sNil) (sRet (ev2 gEq (ev1 gRep (evCall 3 F_place_after (evCons (evV 0) (evCons (evV 2) (evCons (evV 4) evNil))))) (ev1 gRep (evB 3))))))
def F__law_led_right : FF := runD 5 f__law_led_right
/-- law: 0 script, 1 deal, 2 names, 3 places, 4 moves, 5 p, 6 handed, 7 backs, 8 place, 9 wrong, 10 looked, 11 move, 12 turn, 13 told -/
def f_law : SF := (sSeq (sSet 2 (evLst (evCons (evC (.str "swap")) (evCons (evC (.str "turn")) (evCons (evC (.str "reverse")) (evCons (evC (.str "deal")) (evCons (evC (.str "stride")) evNil))))))) (sSeq (sSet 3 (ev2 gAdd (evC (.int 1)) (evCall 2 F__law_any (evCons (evV 1) (evCons (evC (.int 30)) evNil))))) (sSeq (sSet 4 (evLc (evR1 (evCall 2 F__law_any (evCons (evV 1) (evCons (evC (.int 5)) evNil)))) (tgN 12) [12] (evC (.bl true)) (evCall 3 F__law_move (evCons (evV 1) (evCons (evV 3) (evCons (evV 2) evNil)))))) (sSeq (sParK 5 6 (evCall 2 F__law_done (evCons (evV 4) (evCons (evV 3) evNil))) (evLc (evIt (evV 4)) (tgN 11) [11] (evC (.bl true)) (ev1 gList (evB 11)))) (sSeq (sIf (evOr (ev2 gNe (ev1 gRep (evCall 2 F_spread (evCons (evV 3) (evCons (evV 4) evNil)))) (ev1 gRep (evB 5))) (ev2 gNe (ev1 gRep (evCallK 2 0 2 [1, 0] F_spread evNil (evCons (ev1 gTuple (evB 6)) (evCons (evV 3) evNil)))) (ev1 gRep (evB 5)))) (sRet (evC (.bl false))) sNil) (sSeq (sSet 7 (evCall 2 F_undoing (evCons (evV 3) (evCons (evV 6) evNil)))) (sSeq (sIf (evOr (evNot (evTru (ev1 (gIsi [.tuple]) (evB 7)))) (evOr (ev2 gNe (ev1 gLen (evB 7)) (ev1 gLen (evB 4))) (ev2 gNe (evB 6) (evLc (evIt (evV 4)) (tgN 11) [11] (evC (.bl true)) (ev1 gList (evB 11)))))) (sRet (evC (.bl false))) sNil) (sSeq (sIf (evNot (evTru (ev1 gAll (evLc (evZip (evCons (evV 4) (evCons (ev1 gRev (evB 7)) evNil))) (tgTup 2 (tgCons (tgN 11) (tgCons (tgN 13) tgNil))) [11, 13] (evC (.bl true)) (evCall 2 F__law_undone (evCons (evV 11) (evCons (evV 13) evNil))))))) (sRet (evC (.bl false))) sNil) (sSeq (sFor (evR1 (evB 3)) (tgN 8) (sIf (evOr (evNot (evTru (evCall 4 F__law_led_right (evCons (evV 3) (evCons (evV 4) (evCons (evV 7) (evCons (evV 8) evNil))))))) (ev2 gNe (evCall 2 F__law_led (evCons (evV 4) (evCons (evV 8) evNil))) (ev2 gIx (evB 5) (evB 8)))) (sRet (evC (.bl false))) sNil)) (sSeq (sIf (ev2 gNe (evCall 2 F_spread (evCons (evV 3) (evCons (ev2 gAdd (ev1 gList (evB 7)) (evB 4)) evNil))) (evTRg (evB 3))) (sRet (evC (.bl false))) sNil) (sSeq (sSet 9 (evCall 2 F__law_of (evCons (evV 1) (evCons (evLst (evCons (evNeg (evC (.int 1))) (evCons (evV 3) (evCons (evC (.bl true)) (evCons (evC (.bl false)) (evCons (evC .non) (evCons (evC (.str "0")) (evCons (ev2 gAdd (evB 3) (evCall 2 F__law_any (evCons (evV 1) (evCons (evC (.int 9)) evNil)))) (evCons (evTup (evCons (evC (.int 0)) evNil)) evNil))))))))) evNil)))) (sSeq (sIf (evNot (evTru (evCall 3 F__law_refused (evCons (evV 3) (evCons (evV 6) (evCons (evV 9) evNil)))))) (sRet (evC (.bl false))) sNil) (sSeq (sSet 3 (evCall 2 F__law_of (evCons (evV 1) (evCons (evLst (evCons (ev2 gPow (evC (.int 10)) (evC (.int 18))) (evCons (ev2 gAdd (evC (.int 2)) (evCall 2 F__law_large (evCons (evV 1) (evCons (ev2 gSubI (ev2 gPow (evC (.int 10)) (evC (.int 18))) (evC (.int 2))) evNil)))) (evCons (ev2 gAdd (evC (.int 100)) (evCall 2 F__law_any (evCons (evV 1) (evCons (evC (.int 1000)) evNil)))) evNil)))) evNil)))) (sSeq (sSet 4 (evLc (evR1 (ev2 gAdd (evC (.int 1)) (evCall 2 F__law_any (evCons (evV 1) (evCons (evC (.int 15)) evNil))))) (tgN 12) [12] (evC (.bl true)) (evCall 3 F__law_move (evCons (evV 1) (evCons (evV 3) (evCons (evV 2) evNil)))))) (sSeq (sSet 7 (evCallK 2 0 2 [1, 0] F_undoing evNil (evCons (evV 4) (evCons (evV 3) evNil)))) (sSeq (sIf (evOr (ev2 gNe (ev1 gLen (evB 7)) (ev1 gLen (evB 4))) (evNot (evTru (ev1 gAll (evLc (evZip (evCons (evV 4) (evCons (ev1 gRev (evB 7)) evNil))) (tgTup 2 (tgCons (tgN 11) (tgCons (tgN 13) tgNil))) [11, 13] (evC (.bl true)) (evCall 2 F__law_undone (evCons (evV 11) (evCons (evV 13) evNil)))))))) (sRet (evC (.bl false))) sNil) (sSeq (sSet 10 (ev2 gAdd (evLst (evCons (evC (.int 0)) (evCons (ev2 gSubI (evB 3) (evC (.int 1))) evNil))) (evLc (evR1 (evC (.int 4))) (tgN 12) [12] (evC (.bl true)) (evCall 2 F__law_large (evCons (evV 1) (evCons (evV 3) evNil)))))) (sSeq (sFor (evIt (evSl (evB 4) evON (evOS (evC (.int 4))))) (tgN 11) (sSet 10 (ev2 gAdd (evB 10) (evLst (evCons (ev2 gIx (evB 11) (evC (.int 1))) (evCons (ev2 gSubI (ev2 gAdd (ev2 gIx (evB 11) (evC (.int 1))) (evCall 1 F__law_size (evCons (evV 11) evNil))) (evC (.int 1))) (evCons (ev2 gAdd (ev2 gIx (evB 11) (evC (.int 1))) (evCall 2 F__law_large (evCons (evV 1) (evCons (evCall 1 F__law_size (evCons (evV 11) evNil)) evNil)))) evNil))))))) (sSeq (sFor (evIt (evV 10)) (tgN 8) (sIf (evNot (evTru (evCall 4 F__law_led_right (evCons (evV 3) (evCons (evV 4) (evCons (evV 7) (evCons (evV 8) evNil))))))) (sRet (evC (.bl false))) sNil)) (sRet (ev2 gEq (ev1 gRep (evCallK 3 0 3 [2, 1, 0] F_place_after evNil (evCons (ev2 gIx (evB 10) (evC (.int 2))) (evCons (evV 4) (evCons (evV 3) evNil))))) (ev1 gRep (evCall 2 F__law_led (evCons (evV 4) (evCons (ev2 gIx (evB 10) (evC (.int 2))) evNil)))))))))))))))))))))))))
end DL.K56
namespace DL.K56
open PySem PySem.Spec PyProof.Rows L2 DL
/-! ### names, cells, moves (plain) -/
inductive Nm where
  | swap | turn | rev | deal | str
  deriving DecidableEq
def nmS : Nm → Str
  | .swap => "swap" | .turn => "turn" | .rev => "reverse" | .deal => "deal" | .str => "stride"
theorem nmS_inj : ∀ a b : Nm, nmS a = nmS b → a = b := by
  intro a b
  cases a <;> cases b <;> first | (intro _; rfl) | (intro h; exact absurd h (by decide))
abbrev Cl := Nm ⊕ Int
def clD : Cl → D
  | .inl a => .str (nmS a)
  | .inr i => .int i
theorem eqv_cl : Eqv clD 0 := ⟨fun a => by
    cases a with
    | inl a => exact ⟨_, py_str, by cases a <;> (simp only [PyData.canLay0]; exact (tx_of _).ok), by simp only [PyData.depth]; omega⟩
    | inr i => exact gd_int 0 i, fun a b p q h1 h2 => by
    cases a with
    | inl a =>
      cases b with
      | inl b =>
        unfold clD at h1 h2
        rw [py_str] at h1 h2
        cases h1; cases h2
        simp only [PyData.eqv]
        constructor
        · intro h
          rw [nmS_inj a b (by simpa using h)]
        · intro h
          cases h
          simp
      | inr j =>
        unfold clD at h1 h2
        rw [py_str] at h1
        rw [py_int] at h2
        cases h1; cases h2
        simp [PyData.eqv]
    | inr i =>
      cases b with
      | inl b =>
        unfold clD at h1 h2
        rw [py_int] at h1
        rw [py_str] at h2
        cases h1; cases h2
        simp [PyData.eqv]
      | inr j =>
        unfold clD at h1 h2
        rw [py_int] at h1 h2
        cases h1; cases h2
        simp [PyData.eqv]⟩
theorem gEq_nm (a b : Nm) : gEq (.str (nmS a)) (.str (nmS b)) = some (.st, .bl (decide (a = b))) := by
  have := gEq_of eqv_cl (by omega) (.inl a) (.inl b)
  rw [show decide ((Sum.inl a : Cl) = .inl b) = decide (a = b) by
    by_cases h : a = b
    · rw [decide_eq_true h, h]; simp
    · rw [decide_eq_false h, decide_eq_false (fun z => h (Sum.inl.inj z))]] at this
  exact this
inductive Mv where
  | swap (at_ u w v : Nat) | turn (at_ n a : Nat) | rev (at_ n : Nat) | deal (at_ r c : Nat) | str (at_ n a : Nat)
def Mv.nm : Mv → Nm
  | .swap .. => .swap | .turn .. => .turn | .rev .. => .rev | .deal .. => .deal | .str .. => .str
def Mv.at_ : Mv → Nat
  | .swap t .. => t | .turn t .. => t | .rev t .. => t | .deal t .. => t | .str t .. => t
def Mv.sz : Mv → Nat
  | .swap _ u w v => u + w + v | .turn _ n _ => n | .rev _ n => n | .deal _ r c => r * c | .str _ n _ => n
def Mv.ns : Mv → List Nat
  | .swap t u w v => [t, u, w, v] | .turn t n a => [t, n, a] | .rev t n => [t, n] | .deal t r c => [t, r, c] | .str t n a => [t, n, a]
def Mv.cl (m : Mv) : List Cl := .inl m.nm :: m.ns.map fun n : Nat => .inr (n : Int)
def mvL (m : Mv) : List D := .str (nmS m.nm) :: m.ns.map fun n : Nat => D.int (n : Int)
theorem mvL_cl (m : Mv) : mvL m = m.cl.map clD := by
  unfold mvL Mv.cl
  rw [List.map_cons, List.map_map]
  rfl
/-- a move of so many places -/
def Mv.ok (m : Mv) (P : Nat) : Prop := m.at_ + m.sz ≤ P ∧ match m with
  | .swap _ u _ v => 1 ≤ u ∧ 1 ≤ v
  | .turn _ n a => 1 ≤ n ∧ a ≤ 2 * P + 100
  | .rev _ n => 1 ≤ n
  | .deal _ r c => 1 ≤ r ∧ 1 ≤ c
  | .str _ n a => 1 ≤ n ∧ a ≤ 2 * P + 100 ∧ Nat.gcd n a = 1
def Mv.off : Mv → Nat → Nat
  | .swap _ u w v, i => if i < u then v + w + i else if i < u + w then v + (i - u) else i - u - w
  | .turn _ n a, i => (i + a) % n
  | .rev _ n, i => n - 1 - i
  | .deal _ r c, i => i % c * r + i / c
  | .str _ n a, i => i * a % n
def Mv.go (m : Mv) (p : Nat) : Nat := if m.at_ ≤ p ∧ p < m.at_ + m.sz then m.at_ + m.off (p - m.at_) else p
theorem off_lt {m : Mv} {P i : Nat} (h : m.ok P) (hi : i < m.sz) : m.off i < m.sz := by
  cases m with
  | swap t u w v =>
    unfold Mv.off Mv.sz at *
    dsimp only at hi ⊢
    split
    · omega
    · split <;> omega
  | turn t n a => exact Nat.mod_lt _ h.2.1
  | rev t n =>
    unfold Mv.off Mv.sz at *
    dsimp only at hi ⊢
    omega
  | deal t r c =>
    unfold Mv.off Mv.sz at *
    dsimp only at hi ⊢
    have hc : 0 < c := h.2.2
    have h1 : i % c < c := Nat.mod_lt _ hc
    have h2 : i / c < r := (Nat.div_lt_iff_lt_mul hc).mpr hi
    have h3 : (i % c + 1) * r ≤ c * r := Nat.mul_le_mul_right r h1
    rw [Nat.add_mul, Nat.one_mul] at h3
    rw [Nat.mul_comm r c]
    omega
  | str t n a => exact Nat.mod_lt _ h.2.1
theorem go_lt {m : Mv} {P p : Nat} (h : m.ok P) (hp : p < P) : m.go p < P := by
  unfold Mv.go
  split
  · rename_i g
    have := off_lt h (i := p - m.at_) (by omega)
    have := h.1
    omega
  · exact hp
/-- one move undoes another -/
def Und : Mv → Mv → Prop
  | .swap t u w v, .swap t' u' w' v' => t' = t ∧ u' = v ∧ w' = w ∧ v' = u
  | .turn t n a, .turn t' n' a' => t' = t ∧ n' = n ∧ a' < n ∧ (a + a') % n = 0
  | .rev t n, .rev t' n' => t' = t ∧ n' = n
  | .deal t r c, .deal t' r' c' => t' = t ∧ r' = c ∧ c' = r
  | .str t n a, .str t' n' a' => t' = t ∧ n' = n ∧ a' < n ∧ a * a' % n = 1 % n
  | _, _ => False
theorem und_at {m m' : Mv} (h : Und m m') : m'.at_ = m.at_ ∧ m'.sz = m.sz := by
  cases m <;> cases m' <;> first | exact h.elim | skip
  · obtain ⟨rfl, rfl, rfl, rfl⟩ := h
    exact ⟨rfl, by unfold Mv.sz; dsimp only; omega⟩
  · obtain ⟨rfl, rfl, _, _⟩ := h
    exact ⟨rfl, rfl⟩
  · obtain ⟨rfl, rfl⟩ := h
    exact ⟨rfl, rfl⟩
  · obtain ⟨rfl, rfl, rfl⟩ := h
    exact ⟨rfl, Nat.mul_comm _ _⟩
  · obtain ⟨rfl, rfl, _, _⟩ := h
    exact ⟨rfl, rfl⟩
theorem deal_back {r c i : Nat} (hc : 0 < c) (hr : 0 < r) (hi : i < r * c) : (i % c * r + i / c) % r * c + (i % c * r + i / c) / r = i := by
  have h2 : i / c < r := (Nat.div_lt_iff_lt_mul hc).mpr hi
  rw [Nat.mul_comm (i % c) r, Nat.mul_add_mod, Nat.mod_eq_of_lt h2, Nat.mul_add_div hr, Nat.div_eq_of_lt h2, Nat.add_zero, Nat.mul_comm]
  exact Nat.div_add_mod i c
theorem und_off {m m' : Mv} {P i : Nat} (h : m.ok P) (u : Und m m') (hi : i < m.sz) : m'.off (m.off i) = i := by
  cases m <;> cases m' <;> first | exact u.elim | skip
  · rename_i t u0 w v t' u' w' v'
    obtain ⟨rfl, rfl, rfl, rfl⟩ := u
    unfold Mv.off Mv.sz at *
    dsimp only at hi ⊢
    by_cases h1 : i < v'
    · rw [if_pos h1, if_neg (by omega), if_neg (by omega)]
      omega
    · rw [if_neg h1]
      by_cases h2 : i < v' + w'
      · rw [if_pos h2, if_neg (by omega), if_pos (by omega)]
        omega
      · rw [if_neg h2, if_pos (by omega)]
        omega
  · rename_i t n a t' n' a'
    obtain ⟨rfl, rfl, _, h4⟩ := u
    unfold Mv.off Mv.sz at *
    dsimp only at hi ⊢
    rw [Nat.mod_add_mod, Nat.add_assoc, Nat.add_mod, h4, Nat.add_zero, Nat.mod_mod, Nat.mod_eq_of_lt hi]
  · rename_i t n t' n'
    obtain ⟨rfl, rfl⟩ := u
    unfold Mv.off Mv.sz at *
    dsimp only at hi ⊢
    omega
  · rename_i t r c t' r' c'
    obtain ⟨rfl, rfl, rfl⟩ := u
    exact deal_back h.2.2 h.2.1 hi
  · rename_i t n a t' n' a'
    obtain ⟨rfl, rfl, _, h4⟩ := u
    unfold Mv.off Mv.sz at *
    dsimp only at hi ⊢
    rw [Nat.mod_mul_mod, Nat.mul_assoc, Nat.mul_mod, h4, ← Nat.mul_mod, Nat.mul_one, Nat.mod_eq_of_lt hi]
theorem und_go {m m' : Mv} {P p : Nat} (h : m.ok P) (u : Und m m') : m'.go (m.go p) = p := by
  obtain ⟨h1, h2⟩ := und_at u
  unfold Mv.go
  rw [h1, h2]
  by_cases g : m.at_ ≤ p ∧ p < m.at_ + m.sz
  · have hl := off_lt h (i := p - m.at_) (by omega)
    rw [if_pos g, if_pos ⟨by omega, by omega⟩, show m.at_ + m.off (p - m.at_) - m.at_ = m.off (p - m.at_) by omega, und_off h u (by omega)]
    omega
  · rw [if_neg g, if_neg g]
theorem gcd_of_inv {n a b : Nat} (h : a * b % n = 1 % n) : Nat.gcd n b = 1 := by
  have h1 : Nat.gcd n b ∣ a * b := Nat.dvd_trans (Nat.gcd_dvd_right n b) (Nat.dvd_mul_left b a)
  have h2 : Nat.gcd n b ∣ n := Nat.gcd_dvd_left n b
  have h3 : Nat.gcd n b ∣ a * b % n := (Nat.dvd_mod_iff h2).mpr h1
  rw [h] at h3
  have h4 : Nat.gcd n b ∣ 1 := (Nat.dvd_mod_iff h2).mp h3
  exact Nat.dvd_one.mp h4
theorem und_ok {m m' : Mv} {P : Nat} (h : m.ok P) (u : Und m m') : m'.ok P := by
  obtain ⟨h1, h2⟩ := und_at u
  refine ⟨by rw [h1, h2]; exact h.1, ?_⟩
  obtain ⟨h0, h3⟩ := h
  cases m <;> cases m' <;> first | exact u.elim | skip
  · obtain ⟨rfl, rfl, rfl, rfl⟩ := u
    exact ⟨h3.2, h3.1⟩
  · obtain ⟨rfl, rfl, a1, _⟩ := u
    unfold Mv.at_ Mv.sz at h0
    dsimp only at h0
    exact ⟨h3.1, by omega⟩
  · obtain ⟨rfl, rfl⟩ := u
    exact h3
  · obtain ⟨rfl, rfl, rfl⟩ := u
    exact ⟨h3.2, h3.1⟩
  · obtain ⟨rfl, rfl, a1, a2⟩ := u
    unfold Mv.at_ Mv.sz at h0
    dsimp only at h0
    exact ⟨h3.1, by omega, gcd_of_inv a2⟩
/-- a move is undone by what undoes it, seen from behind too -/
theorem und_go2 {m m' : Mv} {P p : Nat} (h : m.ok P) (u : Und m m') : m.go (m'.go p) = p := by
  obtain ⟨h1, h2⟩ := und_at u
  have h' := und_ok h u
  unfold Mv.go
  rw [h1, h2]
  by_cases g : m.at_ ≤ p ∧ p < m.at_ + m.sz
  · have hl := off_lt h' (i := p - m.at_) (by omega)
    rw [h2] at hl
    have ho : m.off (m'.off (p - m.at_)) = p - m.at_ := by
      have hi : p - m.at_ < m'.sz := by omega
      generalize p - m.at_ = i at *
      cases m <;> cases m' <;> first | exact u.elim | skip
      · rename_i t u0 w v t' u' w' v'
        obtain ⟨rfl, rfl, rfl, rfl⟩ := u
        exact und_off (m' := .swap t' v' w' u') h' ⟨rfl, rfl, rfl, rfl⟩ hi
      · rename_i t n a t' n' a'
        obtain ⟨rfl, rfl, _, h4⟩ := u
        unfold Mv.off Mv.sz at *
        dsimp only at hi ⊢
        rw [Nat.mod_add_mod, Nat.add_assoc, Nat.add_mod, Nat.add_comm a' a, h4, Nat.add_zero, Nat.mod_mod, Nat.mod_eq_of_lt hi]
      · rename_i t n t' n'
        obtain ⟨rfl, rfl⟩ := u
        exact und_off (m' := .rev t' n') h' ⟨rfl, rfl⟩ hi
      · rename_i t r c t' r' c'
        obtain ⟨rfl, rfl, rfl⟩ := u
        exact und_off (m' := .deal t' c' r') h' ⟨rfl, rfl, rfl⟩ hi
      · rename_i t n a t' n' a'
        obtain ⟨rfl, rfl, _, h4⟩ := u
        unfold Mv.off Mv.sz at *
        dsimp only at hi ⊢
        rw [Nat.mod_mul_mod, Nat.mul_assoc, Nat.mul_mod, Nat.mul_comm a' a, h4, ← Nat.mul_mod, Nat.mul_one, Nat.mod_eq_of_lt hi]
    rw [if_pos g, if_pos ⟨by omega, by omega⟩, show m.at_ + m'.off (p - m.at_) - m.at_ = m'.off (p - m.at_) by omega, ho]
    omega
  · rw [if_neg g, if_neg g]
/-! ### rows of moves -/
def led (ms : List Mv) (p : Nat) : Nat := ms.foldl (fun p m => m.go p) p
theorem led_nil (p : Nat) : led [] p = p := rfl
theorem led_cons (m : Mv) (ms : List Mv) (p : Nat) : led (m :: ms) p = led ms (m.go p) := rfl
theorem led_append (ms ns : List Mv) (p : Nat) : led (ms ++ ns) p = led ns (led ms p) := by unfold led; rw [List.foldl_append]
theorem led_lt {P : Nat} : ∀ (ms : List Mv) (p : Nat), (∀ m ∈ ms, m.ok P) → p < P → led ms p < P
  | [], p, _, h => h
  | m :: ms, p, hm, h => led_lt ms (m.go p) (fun x hx => hm x (List.mem_cons_of_mem _ hx)) (go_lt (hm m List.mem_cons_self) h)
/-- there and back -/
theorem led_back {P : Nat} (f : Mv → Mv) : ∀ (ms : List Mv) (p : Nat), (∀ m ∈ ms, m.ok P ∧ Und m (f m)) → led (ms.reverse.map f) (led ms p) = p
  | [], p, _ => rfl
  | m :: ms, p, h => by
    obtain ⟨h1, h2⟩ := h m List.mem_cons_self
    rw [led_cons, List.reverse_cons, List.map_append, led_append, led_back f ms (m.go p) fun x hx => h x (List.mem_cons_of_mem _ hx)]
    exact und_go h1 h2
theorem led_forth {P : Nat} (f : Mv → Mv) : ∀ (ms : List Mv) (p : Nat), (∀ m ∈ ms, m.ok P ∧ Und m (f m)) → led ms (led (ms.reverse.map f) p) = p
  | [], p, _ => rfl
  | m :: ms, p, h => by
    obtain ⟨h1, h2⟩ := h m List.mem_cons_self
    rw [led_cons, List.reverse_cons, List.map_append, led_append]
    show led ms (m.go ((f m).go (led (ms.reverse.map f) p))) = p
    rw [und_go2 h1 h2]
    exact led_forth f ms p fun x hx => h x (List.mem_cons_of_mem _ hx)
end DL.K56
namespace DL.K56
open PySem PySem.Spec PyProof.Rows L2 DL
/-! ### inverses (plain) -/
def eucl : Nat → Nat → Nat → Int → Int → Int
  | 0, _, _, x, _ => x
  | f + 1, o, t, x, y => if t = 0 then x else eucl f t (o % t) y (x - ((o / t : Nat) : Int) * y)
def invN (a n : Nat) : Nat := ((eucl (n + 2) n (a % n) 0 1) % (n : Int)).toNat
theorem eucl_ok (n : Nat) (a : Int) : ∀ (f o t : Nat) (x y : Int), t < f → Nat.gcd o t = 1 → (n : Int) ∣ (o : Int) - x * a → (n : Int) ∣ (t : Int) - y * a → (n : Int) ∣ 1 - eucl f o t x y * a
  | 0, o, t, x, y, h, _, _, _ => absurd h (Nat.not_lt_zero _)
  | f + 1, o, t, x, y, h, hg, h1, h2 => by
    unfold eucl
    by_cases ht : t = 0
    · rw [if_pos ht]
      rw [ht, Nat.gcd_zero_right] at hg
      rw [hg] at h1
      exact h1
    · rw [if_neg ht]
      have hl : o % t < t := Nat.mod_lt _ (by omega)
      refine eucl_ok n a f t (o % t) y _ (by omega) ?_ h2 ?_
      · rw [← hg, Nat.gcd_comm o t, Nat.gcd_comm t (o % t), ← Nat.gcd_rec]
      · have e1 : ((o % t : Nat) : Int) = (o : Int) - ((o / t : Nat) : Int) * (t : Int) := by
          have := Nat.div_add_mod o t
          rw [← Int.natCast_mul, Nat.mul_comm (o / t)]
          omega
        have e2 : ((o % t : Nat) : Int) - (x - ((o / t : Nat) : Int) * y) * a = ((o : Int) - x * a) - ((o / t : Nat) : Int) * ((t : Int) - y * a) := by
          rw [e1, Int.sub_mul, Int.mul_sub, Int.mul_assoc]
          omega
        rw [e2]
        exact Int.dvd_sub h1 (Int.dvd_mul_of_dvd_right h2)
theorem invN_ok {a n : Nat} (h0 : 0 < n) (h : Nat.gcd n a = 1) : invN a n < n ∧ a * invN a n % n = 1 % n := by
  have h1 := eucl_ok n (a : Int) (n + 2) n (a % n) 0 1 (by have := Nat.mod_lt a h0; omega) (by rw [← h, Nat.gcd_comm n (a % n), ← Nat.gcd_rec]) (by rw [Int.zero_mul, Int.sub_zero]; exact Int.dvd_refl _) (by
    rw [Int.one_mul]
    refine ⟨-((a / n : Nat) : Int), ?_⟩
    have := Nat.div_add_mod a n
    rw [Int.mul_neg, ← Int.natCast_mul]
    omega)
  unfold invN
  generalize eucl (n + 2) n (a % n) 0 1 = e at *
  have h2 : 0 ≤ e % (n : Int) := Int.emod_nonneg _ (by omega)
  have h3 : e % (n : Int) < (n : Int) := Int.emod_lt_of_pos _ (by omega)
  refine ⟨by omega, ?_⟩
  have h4 : (((a * (e % (n : Int)).toNat % n : Nat)) : Int) = ((1 % n : Nat) : Int) := by
    rw [Int.natCast_emod, Int.natCast_emod, Int.natCast_mul, Int.toNat_of_nonneg h2]
    have h5 : (a : Int) * (e % (n : Int)) % (n : Int) = (a : Int) * e % (n : Int) := by
      rw [Int.mul_emod, Int.emod_emod_of_dvd _ (Int.dvd_refl _), ← Int.mul_emod]
    rw [h5]
    refine Int.emod_eq_emod_iff_emod_sub_eq_zero.mpr (Int.emod_eq_zero_of_dvd ?_)
    have h6 : (a : Int) * e - ((1 : Nat) : Int) = -(1 - e * (a : Int)) := by
      rw [Int.mul_comm (a : Int) e]
      omega
    rw [h6]
    exact Int.dvd_neg.mpr h1
  omega
def un : Mv → Mv
  | .swap t u w v => .swap t v w u
  | .turn t n a => .turn t n ((n - a % n) % n)
  | .rev t n => .rev t n
  | .deal t r c => .deal t c r
  | .str t n a => .str t n (invN a n)
theorem und_un {m : Mv} {P : Nat} (h : m.ok P) : Und m (un m) := by
  cases m with
  | swap t u w v => exact ⟨rfl, rfl, rfl, rfl⟩
  | turn t n a =>
    have h1 : 1 ≤ n := h.2.1
    refine ⟨rfl, rfl, Nat.mod_lt _ h1, ?_⟩
    have h2 := Nat.mod_lt a h1
    have : a + (n - a % n) = n * (a / n + 1) := by
      have := Nat.div_add_mod a n
      rw [Nat.mul_succ]
      omega
    rw [Nat.add_mod_mod, this, Nat.mul_mod_right]
  | rev t n => exact ⟨rfl, rfl⟩
  | deal t r c => exact ⟨rfl, rfl, rfl⟩
  | str t n a =>
    obtain ⟨h1, h2⟩ := invN_ok h.2.1 h.2.2.2
    exact ⟨rfl, rfl, h1, h2⟩
end DL.K56
namespace DL.K56
open PySem PySem.Spec PyProof.Rows L2 DL
/-! ### stretches taken apart (plain) -/
def spl (row later : List Nat) (t z : Nat) : List Nat := row.take t ++ later ++ row.drop (t + z)
theorem spl_len {row later : List Nat} {t z P : Nat} (hr : row.length = P) (hl : later.length = z) (h : t + z ≤ P) : (spl row later t z).length = P := by
  unfold spl
  rw [List.length_append, List.length_append, List.length_take, List.length_drop]
  omega
theorem spl_go {m : Mv} {row later : List Nat} {P : Nat} (h : m.ok P) (hr : row.length = P) (hl : later.length = m.sz) (hj : ∀ j, j < m.sz → later[m.off j]? = row[m.at_ + j]?) (q : Nat) (hq : q < P) : (spl row later m.at_ m.sz)[m.go q]? = row[q]? := by
  have h0 := h.1
  have ht : (row.take m.at_).length = m.at_ := by rw [List.length_take]; omega
  unfold spl Mv.go
  by_cases g : m.at_ ≤ q ∧ q < m.at_ + m.sz
  · have ho := off_lt h (i := q - m.at_) (by omega)
    rw [if_pos g, List.append_assoc, List.getElem?_append_right (by omega), List.getElem?_append_left (by omega), ht, show m.at_ + m.off (q - m.at_) - m.at_ = m.off (q - m.at_) by omega, hj _ (by omega)]
    congr 1
    omega
  · rw [if_neg g, List.append_assoc]
    by_cases g2 : q < m.at_
    · rw [List.getElem?_append_left (by omega), List.getElem?_take_of_lt g2]
    · rw [List.getElem?_append_right (by omega), List.getElem?_append_right (by omega), List.getElem?_drop]
      congr 1
      omega
def part (row : List Nat) (t z : Nat) : List Nat := (row.drop t).take z
theorem part_len {row : List Nat} {t z P : Nat} (hr : row.length = P) (h : t + z ≤ P) : (part row t z).length = z := by
  unfold part
  rw [List.length_take, List.length_drop]
  omega
theorem part_get {row : List Nat} {t z j : Nat} (hj : j < z) : (part row t z)[j]? = row[t + j]? := by
  unfold part
  rw [List.getElem?_take_of_lt hj, List.getElem?_drop]
def latS (p : List Nat) (u w : Nat) : List Nat := p.drop (u + w) ++ (p.drop u).take w ++ p.take u
theorem latS_len {p : List Nat} {u w v : Nat} (hp : p.length = u + w + v) : (latS p u w).length = u + w + v := by
  unfold latS
  rw [List.length_append, List.length_append, List.length_drop, List.length_take, List.length_take, List.length_drop]
  omega
theorem latS_get {p : List Nat} {t u w v j : Nat} (hp : p.length = u + w + v) (hj : j < u + w + v) : (latS p u w)[(Mv.swap t u w v).off j]? = p[j]? := by
  have h1 : (p.drop (u + w)).length = v := by rw [List.length_drop]; omega
  have h2 : ((p.drop u).take w).length = w := by rw [List.length_take, List.length_drop]; omega
  unfold latS Mv.off
  dsimp only
  rw [List.append_assoc]
  by_cases g : j < u
  · rw [if_pos g, List.getElem?_append_right (by omega), List.getElem?_append_right (by omega), List.getElem?_take_of_lt (by omega)]
    congr 1
    omega
  · rw [if_neg g]
    by_cases g2 : j < u + w
    · rw [if_pos g2, List.getElem?_append_right (by omega), List.getElem?_append_left (by omega), List.getElem?_take_of_lt (by omega), List.getElem?_drop]
      congr 1
      omega
    · rw [if_neg g2, List.getElem?_append_left (by omega), List.getElem?_drop]
      congr 1
      omega
def latT (p : List Nat) (n s : Nat) : List Nat := p.drop (n - s) ++ p.take (n - s)
theorem latT_len {p : List Nat} {n s : Nat} (hp : p.length = n) : (latT p n s).length = n := by
  unfold latT
  rw [List.length_append, List.length_drop, List.length_take]
  omega
theorem latT_get {p : List Nat} {t n a j : Nat} (h0 : 0 < n) (hp : p.length = n) (hj : j < n) : (latT p n (a % n))[(Mv.turn t n a).off j]? = p[j]? := by
  have hs := Nat.mod_lt a h0
  unfold latT Mv.off
  dsimp only
  rw [show (j + a) % n = (j + a % n) % n by rw [Nat.add_mod_mod]]
  generalize a % n = s at *
  have h1 : (p.drop (n - s)).length = s := by rw [List.length_drop]; omega
  by_cases g : j < n - s
  · rw [Nat.mod_eq_of_lt (by omega), List.getElem?_append_right (by omega), List.getElem?_take_of_lt (by omega)]
    congr 1
    omega
  · have e : (j + s) % n = j + s - n := by
      rw [Nat.mod_eq_sub_mod (by omega), Nat.mod_eq_of_lt (by omega)]
    rw [e, List.getElem?_append_left (by omega), List.getElem?_drop]
    congr 1
    omega
theorem latR_get {p : List Nat} {t n j : Nat} (hp : p.length = n) (hj : j < n) : p.reverse[(Mv.rev t n).off j]? = p[j]? := by
  unfold Mv.off
  dsimp only
  rw [List.getElem?_reverse (by omega)]
  congr 1
  omega
def latD (p : List Nat) (r c : Nat) : List Nat := (List.range (r * c)).map fun k => p.getD (k % r * c + k / r) default
theorem latD_len (p : List Nat) (r c : Nat) : (latD p r c).length = r * c := by unfold latD; simp
theorem latD_get {p : List Nat} {t r c j : Nat} (hr : 0 < r) (hc : 0 < c) (hp : p.length = r * c) (hj : j < r * c) : (latD p r c)[(Mv.deal t r c).off j]? = p[j]? := by
  have hk : (Mv.deal t r c).off j < r * c := off_lt (m := .deal t r c) (P := t + r * c) ⟨Nat.le_refl _, hr, hc⟩ hj
  have hb := deal_back hc hr hj
  unfold Mv.off at *
  dsimp only at hk ⊢
  unfold latD
  rw [List.getElem?_map, List.getElem?_range hk]
  show some (p.getD ((j % c * r + j / c) % r * c + (j % c * r + j / c) / r) default) = _
  rw [hb, List.getD_eq_getElem?_getD, List.getElem?_eq_getElem (by omega)]
  rfl
theorem str_inj {n a i j : Nat} (h0 : 0 < n) (hg : Nat.gcd n a = 1) (hi : i < n) (hj : j < n) (h : i * a % n = j * a % n) : i = j := by
  obtain ⟨h1, h2⟩ := invN_ok h0 hg
  have e : ∀ x, x < n → x * a % n * invN a n % n = x := fun x hx => by
    rw [Nat.mod_mul_mod, Nat.mul_assoc, Nat.mul_mod, h2, ← Nat.mul_mod, Nat.mul_one, Nat.mod_eq_of_lt hx]
  rw [← e i hi, ← e j hj, h]
/-- one more entry of a stride written -/
theorem str_step {p l : List Nat} {n a d x : Nat} (h0 : 0 < n) (hg : Nat.gcd n a = 1) (hd : d < n) (hl : l.length = n) (hx : p[d]? = some x) (h : ∀ j, j < d → l[j * a % n]? = p[j]?) : ∀ j, j < d + 1 → (l.set (d * a % n) x)[j * a % n]? = p[j]? := fun j hj => by
  by_cases g : j < d
  · have hne : d * a % n ≠ j * a % n := fun z => by
      have := str_inj h0 hg hd (by omega : j < n) z
      omega
    rw [List.getElem?_set_ne hne, h j g]
  · have : j = d := by omega
    subst this
    rw [List.getElem?_set_self (by rw [hl]; exact Nat.mod_lt _ h0), hx]
/-! ### the row turned about -/
structure RowOk (P : Nat) (ms : List Mv) (row : List Nat) : Prop where
  ln : row.length = P
  at_ : ∀ x, x < P → row[led ms x]? = some x
theorem rowOk_nil (P : Nat) : RowOk P [] (List.range P) := ⟨List.length_range, fun x hx => List.getElem?_range hx⟩
theorem led_snoc (ms : List Mv) (m : Mv) (x : Nat) : led (ms ++ [m]) x = m.go (led ms x) := by rw [led_append]; rfl
theorem rowOk_step {P : Nat} {ms : List Mv} {m : Mv} {row later : List Nat} (h : RowOk P ms row) (hm : ∀ x ∈ ms, x.ok P) (hok : m.ok P) (hl : later.length = m.sz) (hj : ∀ j, j < m.sz → later[m.off j]? = (part row m.at_ m.sz)[j]?) : RowOk P (ms ++ [m]) (spl row later m.at_ m.sz) := by
  refine ⟨spl_len h.ln hl hok.1, fun x hx => ?_⟩
  rw [led_snoc, spl_go hok h.ln hl (fun j hjj => by rw [hj j hjj, part_get hjj]) _ (led_lt ms x hm hx)]
  exact h.at_ x hx
/-- place d holds some entry, which is led there -/
theorem rowOk_get {P : Nat} {ms : List Mv} {row : List Nat} (h : RowOk P ms row) (hm : ∀ x ∈ ms, x.ok P) {d : Nat} (hd : d < P) : ∃ x, x < P ∧ row[d]? = some x ∧ led ms x = d := by
  have hu : ∀ m ∈ ms, m.ok P ∧ Und m (un m) := fun m hx => ⟨hm m hx, und_un (hm m hx)⟩
  have e := led_forth un ms d hu
  have hl : led (ms.reverse.map un) d < P := led_lt _ _ (fun m hx => by
    obtain ⟨m0, h1, rfl⟩ := List.mem_map.mp hx
    have := hu m0 (List.mem_reverse.mp h1)
    exact und_ok this.1 this.2) hd
  refine ⟨_, hl, ?_, e⟩
  have := h.at_ _ hl
  rw [e] at this
  exact this
/-- one more place told -/
theorem tell_step {P d x : Nat} {ms : List Mv} {row p : List Nat} (h : RowOk P ms row) (hm : ∀ x ∈ ms, x.ok P) (hd : d < P) (hx : row[d]? = some x) (hp : p.length = P) (hi : ∀ y, y < P → led ms y < d → p[y]? = some (led ms y)) : x < P ∧ ∀ y, y < P → led ms y < d + 1 → (p.set x d)[y]? = some (led ms y) := by
  obtain ⟨x', h1, h2, h3⟩ := rowOk_get h hm hd
  rw [hx] at h2
  cases h2
  refine ⟨h1, fun y hy hl => ?_⟩
  by_cases g : y = x
  · subst g
    rw [List.getElem?_set_self (by omega), h3]
  · have hne : led ms y ≠ d := fun z => by
      have e := h.at_ y hy
      rw [z, hx] at e
      cases e
      exact g rfl
    rw [List.getElem?_set_ne (Ne.symm g), hi y hy (by omega)]
end DL.K56
namespace DL.K56
open PySem PySem.Spec PyProof.Rows L2 DL
local macro_rules | `(tactic| get_elem_tactic_trivial) => `(tactic| first
  | ((with_reducible show wpC (tgUnl _ _ _ _) _); first | refine wC_unl rfl rfl ?_)
  | ((with_reducible refine t_M ?_); refine tM_i rfl (by repeat (first | with_reducible exact set_0 | with_reducible apply set_s)) ?_)
  | ((with_reducible show wpS (sApp _ _ _) _); first | refine wS_app rfl ?_)
  | ((with_reducible show appK _ _ _ _ _); first | refine app_st (by first | exact st_nb | exact fr_nb) rfl (by first | omega | (simp <;> omega)) (by repeat (first | with_reducible exact set_0 | with_reducible apply set_s)) ?_ | fail)
  | ((with_reducible show ownK _ _ _); first | refine own_i rfl ?_)
  | ((with_reducible show wpS (sAppPop _ _ _ _) _); first | refine wS_appPop rfl rfl ?_) | fail)
local macro_rules | `(tactic| get_elem_tactic_trivial) => `(tactic| first
  | with_reducible refine wS_drop ?_
  | with_reducible refine wS_retN ?_
  | with_reducible refine wS_brk ?_
  | with_reducible refine wS_cnt ?_
  | ((with_reducible show par3K _ _ _ _ _ _); first | refine par3_st (lt_of_ble rfl) (lt_of_ble rfl) (lt_of_ble rfl) (by repeat (first | with_reducible exact set_0 | with_reducible apply set_s)) (by repeat (first | with_reducible exact set_0 | with_reducible apply set_s)) (by repeat (first | with_reducible exact set_0 | with_reducible apply set_s)) ?_)
  | ((with_reducible show wpC (tgTup _ _ _ _) _); first | refine wC_tup rfl rfl ?_) | fail)
local macro_rules | `(tactic| get_elem_tactic_trivial) => `(tactic| first
  | with_reducible refine wS_asg ?_
  | with_reducible refine wC_cons ?_
  | with_reducible refine wC_nil ?_
  | with_reducible refine wS_putI ?_
  | with_reducible refine wS_swapI ?_
  | with_reducible refine swap_i ?_ | fail)
local macro_rules | `(tactic| get_elem_tactic_trivial) => `(tactic| first
  | with_reducible refine wO_rep_non ?_
  | ((with_reducible show wpO (gRep0 _) _); first | refine wO_rep_bl rfl ?_)
  | with_reducible refine wO_all ?_
  | with_reducible refine wO_any ?_
  | with_reducible refine wS_parK ?_
  | with_reducible refine wS_par3 ?_ | fail)
local macro_rules | `(tactic| get_elem_tactic_trivial) => `(tactic| first
  | ((with_reducible show wpO (gMin2 _ _) _); first | refine wO_min2 rfl rfl ?_)
  | ((with_reducible show wpO (gIx _ _) _); first | refine wO_ix rfl rfl (by first | omega | with_reducible assumption) ?_ | refine wO_ix_last rfl rfl (by first | with_reducible assumption | simp) ?_ | refine wO_ixi rfl rfl (by first | omega | with_reducible assumption) ?_ | refine wO_ixl rfl ?_)
  | ((with_reducible show wpO (gErrIs _ _) _); first | refine wO_errIs rfl ?_)
  | ((with_reducible show wpO (gIsi _ _) _); first | refine wO_isi rfl ?_)
  | ((with_reducible show wpO (gSl _ _ _) _); first | refine wO_slL rfl ?_ | refine wO_slT rfl ?_)
  | ((with_reducible show wpO (gRev _) _); first | refine wO_revL rfl ?_ | refine wO_revT rfl ?_) | fail)
local macro_rules | `(tactic| get_elem_tactic_trivial) => `(tactic| first
  | ((with_reducible show wpO (gLen _) _); first | refine wO_lenm rfl ?_ | refine wO_len rfl ?_)
  | ((with_reducible show wpO (gList _) _); first | refine wO_list rfl ?_)
  | ((with_reducible show wpO (gTuple _) _); first | refine wO_tuple rfl ?_)
  | ((with_reducible show wpO (gInt _) _); first | refine wO_int rfl ?_)
  | ((with_reducible show wpO (gAbs _) _); first | refine wO_abs rfl ?_)
  | ((with_reducible show wpO (gMax2 _ _) _); first | refine wO_max2 rfl rfl ?_) | fail)
local macro_rules | `(tactic| get_elem_tactic_trivial) => `(tactic| first
  | ((with_reducible show wpO (gGe _ _) _); first | refine wO_ge rfl rfl ?_)
  | ((with_reducible show wpO (gEq _ _) _); first | refine wO_eqI rfl rfl ?_ | refine wO_eqB rfl rfl ?_ | refine wO_eqSt (tx_of _).ok (tx_of _).ok (by decide) ?_ | refine wO_eqSf (tx_of _).ok (tx_of _).ok (by decide) ?_ | fail)
  | ((with_reducible show wpO (gNe _ _) _); first | refine wO_neI rfl rfl ?_ | refine wO_neB rfl rfl ?_)
  | with_reducible refine wO_isN ?_
  | with_reducible refine wO_notN ?_
  | ((with_reducible show wpO (gIsB _ _) _); first | refine wO_isB rfl rfl ?_) | fail)
local macro_rules | `(tactic| get_elem_tactic_trivial) => `(tactic| first
  | ((with_reducible show wpO (gMul _ _) _); first | refine wO_mul rfl rfl (mulOk_small (by omega)) ?_ | refine wO_mul rfl rfl (mulOk_r (by omega)) ?_ | refine wO_mul rfl rfl (by with_reducible assumption) ?_ | fail)
  | ((with_reducible show wpO (gFdiv _ _) _); first | refine wO_fdiv rfl rfl (fdivOk_small (by omega)) ?_ | refine wO_fdiv rfl rfl (by first | with_reducible assumption | rfl) ?_ | fail)
  | ((with_reducible show wpO (gMod _ _) _); first | refine wO_mod rfl rfl (by first | omega | with_reducible assumption) ?_ | fail)
  | ((with_reducible show wpO (gLt _ _) _); first | refine wO_lt rfl rfl ?_)
  | ((with_reducible show wpO (gLe _ _) _); first | refine wO_le rfl rfl ?_)
  | ((with_reducible show wpO (gGt _ _) _); first | refine wO_gt rfl rfl ?_) | fail)
local macro_rules | `(tactic| get_elem_tactic_trivial) => `(tactic| first
  | ((with_reducible show lenB _ _); first | refine lenB_i (by first | omega | (simp <;> omega)) ?_ | fail)
  | ((with_reducible show in62 _ _); first | refine in62_i (by first | omega | with_reducible assumption) (by first | omega | with_reducible assumption) ?_ | fail)
  | ((with_reducible show inM _ _); first | refine inM_i (by first | omega | with_reducible assumption) (by first | omega | with_reducible assumption) ?_ | fail)
  | ((with_reducible show onBl _ _ _); first | with_reducible refine onBl_t ?_ | with_reducible refine onBl_f ?_ | with_reducible refine onBl_nt ?_ | with_reducible refine onBl_nf ?_ | with_reducible refine onBl_dt (by first | omega | with_reducible assumption) ?_ | with_reducible refine onBl_df (by first | omega | with_reducible assumption) ?_ | with_reducible refine onBl_ndt (by first | omega | with_reducible assumption) ?_ | with_reducible refine onBl_ndf (by first | omega | with_reducible assumption) ?_ | fail)
  | ((with_reducible show wpO (gAdd _ _) _); first | refine wO_add rfl rfl ?_ | refine wO_catT rfl rfl (by first | omega | (simp <;> omega)) ?_ | refine wO_catL rfl rfl (by first | omega | (simp <;> omega)) ?_ | refine wO_catT rfl rfl ?_ ?_ | refine wO_catL rfl rfl ?_ ?_)
  | ((with_reducible show wpO (gSubI _ _) _); first | refine wO_sub rfl rfl ?_) | fail)
local macro_rules | `(tactic| get_elem_tactic_trivial) => `(tactic| first
  | ((with_reducible show lstK _ _); first | refine lst_i ?_)
  | ((with_reducible show itK _ _ _ _); first | refine it_seq st_nb rfl ?_ | refine it_seq fr_nb rfl ?_)
  | ((with_reducible show enK _ _ _); first | refine en_seq rfl ?_)
  | ((with_reducible show isBl _ _); first | refine isBl_i rfl ?_)
  | ((with_reducible show isInt _ _); first | refine isInt_i rfl ?_)
  | ((with_reducible show isTru _ _); first | refine isTru_i rfl ?_) | fail)
local macro_rules | `(tactic| get_elem_tactic_trivial) => `(tactic| first
  | with_reducible refine wA_zip ?_
  | with_reducible refine wE_lm ?_
  | with_reducible refine wE_dK0 ?_
  | with_reducible refine wE_dT0 ?_
  | with_reducible refine wA_R3 ?_
  | ((with_reducible show zipK _ _ _); first | refine zip_l ?_ | refine zip_t ?_ | refine zip_lt ?_) | fail)
local macro_rules | `(tactic| get_elem_tactic_trivial) => `(tactic| first
  | with_reducible refine wS_nil ?_
  | with_reducible refine wS_for ?_
  | with_reducible refine wA_it ?_
  | with_reducible refine wA_en ?_
  | with_reducible refine wA_R1 ?_
  | with_reducible refine wA_R2 ?_ | fail)
local macro_rules | `(tactic| get_elem_tactic_trivial) => `(tactic| first
  | with_reducible refine wL_el ?_
  | with_reducible refine wL_cl ?_
  | with_reducible refine wV_none ?_
  | with_reducible refine wV_some ?_
  | with_reducible refine And.intro st_nb ?_
  | with_reducible refine And.intro fr_nb ?_ | fail)
local macro_rules | `(tactic| get_elem_tactic_trivial) => `(tactic| first
  | with_reducible refine wE_callK2 ?_
  | with_reducible refine wE_sl ?_
  | with_reducible refine wE_LRg ?_
  | with_reducible refine wE_TRg ?_
  | with_reducible refine wE_lc ?_
  | with_reducible refine wE_lcN ?_ | fail)
local macro_rules | `(tactic| get_elem_tactic_trivial) => `(tactic| first
  | with_reducible refine wE_tru ?_
  | with_reducible refine wE_if ?_
  | with_reducible refine wE_tup ?_
  | with_reducible refine wE_lst ?_
  | with_reducible refine wE_neg ?_
  | with_reducible refine wE_ev3 ?_ | fail)
local macro_rules | `(tactic| get_elem_tactic_trivial) => `(tactic| first
  | ((with_reducible refine p_Mf ?_); refine pM_f rfl (by repeat (first | with_reducible exact set_0 | with_reducible apply set_s)) ?_)
  | with_reducible refine wE_ev1 ?_
  | with_reducible refine wE_ev2 ?_
  | with_reducible refine wE_and ?_
  | with_reducible refine wE_or ?_
  | with_reducible refine wE_not ?_ | fail)
local macro_rules | `(tactic| get_elem_tactic_trivial) => `(tactic| first
  | with_reducible refine wA_nil ?_
  | with_reducible refine wE_evC ?_
  | ((with_reducible refine v_M ?_); refine vM_a rfl (by repeat (first | with_reducible exact set_0 | with_reducible apply set_s)) ?_)
  | ((with_reducible refine b_M ?_); refine bM_i rfl ?_)
  | ((with_reducible refine m_M ?_); first | refine mM_s rfl ?_ | refine mM_o rfl (by repeat (first | with_reducible exact set_0 | with_reducible apply set_s)) ?_)
  | ((with_reducible refine p_Ms ?_); refine pM_s rfl (by repeat (first | with_reducible exact set_0 | with_reducible apply set_s)) ?_) | fail)
local macro_rules | `(tactic| get_elem_tactic_trivial) => `(tactic| first
  | with_reducible refine wS_if ?_
  | with_reducible refine wS_ret ?_
  | with_reducible refine ret_st ?_
  | with_reducible refine ret_fr ?_
  | with_reducible refine wE_call ?_
  | with_reducible refine wA_cons ?_ | fail)
local macro_rules | `(tactic| get_elem_tactic_trivial) => `(tactic| first
  | with_reducible refine wE_errAt ?_
  | ((with_reducible show errK _ _ _ _); first | refine err_i rfl ?_)
  | ((with_reducible show tryK _ _ _ _ _ _); first | refine try_yes rfl rfl (by repeat (first | with_reducible exact set_0 | with_reducible apply set_s)) ?_ | refine try_no rfl ?_)
  | ((with_reducible show try0K _ _ _ _ _); first | refine try0_yes rfl ?_ | refine try0_no rfl ?_)
  | with_reducible refine wS_seq ?_
  | with_reducible refine wS_set ?_ | fail)
local macro_rules | `(tactic| get_elem_tactic_trivial) => `(tactic| first
  | with_reducible refine wS_raise ?_
  | with_reducible refine raise_st ?_
  | with_reducible refine raise_fr ?_
  | with_reducible refine wS_try ?_
  | with_reducible refine wS_try0 ?_
  | with_reducible refine wE_ref ?_ | fail)
/-! ### plain kinds -/
def okD : D → Bool
  | .obj _ _ _ => false
  | .deal => false
  | .err _ _ => false
  | _ => true
def isIntD : D → Bool
  | .int _ => true
  | _ => false
def isNumD : D → Bool
  | .int n => decide (0 ≤ n)
  | _ => false
def isIxD (m : Int) : D → Bool
  | .int n => decide (0 ≤ n) && decide (n < m)
  | _ => false
theorem is_integer_eq (d : D) (W : Wd) (h : okD d = true) : F_is_integer [d] W = .ret false (.bl (isIntD d)) W := by
  cases d <;> first | rfl | cases h
theorem is_number_eq (d : D) (W : Wd) (h : okD d = true) : F_is_number [d] W = .ret false (.bl (isNumD d)) W := by
  have e := is_integer_eq d W h
  cases d <;> first | cases h | skip
  all_goals
    simp [F_is_number, f_is_number, runD, startC, sRet, evAnd, evCall, evCons, evV, evNil, e, isIntD, isNumD, ev2, evB, evC, gGe, gI]
def isSeqD : D → Bool
  | .lst _ => true
  | .tup _ => true
  | _ => false
theorem is_sequence_eq (d : D) (W : Wd) (h : okD d = true) : F_is_sequence [d] W = .ret false (.bl (isSeqD d)) W := by
  cases d <;> first | rfl | cases h
def nD (n : Nat) : D := .int (n : Int)
def sqD : Bool → List D → D
  | true, ds => .lst ds
  | false, ds => .tup ds
theorem rngD_0 (n : Nat) : rngD 0 n = (List.range n).map nD := by
  unfold rngD
  refine List.map_congr_left fun i _ => ?_
  show D.int (0 + (i : Int)) = D.int (i : Int)
  rw [Int.zero_add]
theorem num_nat {d : D} (h : isNumD d = true) : ∃ n : Nat, d = nD n := by
  cases d with
  | int i => exact ⟨i.toNat, by unfold isNumD at h; have := of_decide_eq_true h; unfold nD; congr 1; omega⟩
  | _ => cases h
theorem isNum_n (n : Nat) : isNumD (nD n) = true := decide_eq_true (Int.natCast_nonneg n)
theorem is_index_eq (d : D) (m : Int) (W : Wd) (h : okD d = true) : F_is_index [d, .int m] W = .ret false (.bl (isIxD m d)) W := by
  have e := is_number_eq d W h
  cases d with
  | int n =>
    by_cases hn : 0 ≤ n
    · simp [F_is_index, f_is_index, runD, startC, sRet, evAnd, evCall, evCons, evV, evNil, e, isNumD, isIxD, ev2, evB, evC, gLt, gI, hn]
    · simp [F_is_index, f_is_index, runD, startC, sRet, evAnd, evCall, evCons, evV, evNil, e, isNumD, isIxD, ev2, evB, evC, gLt, gI, hn]
  | obj C ns ds => cases h
  | deal => cases h
  | err cn es => cases h
  | _ => simp [F_is_index, f_is_index, runD, startC, sRet, evAnd, evCall, evCons, evV, evNil, e, isNumD, isIxD]
/-! ### greatest common divisors -/
theorem divisor_eq (a b : Nat) (W : Wd) : F_divisor [nD a, nD b] W = .ret false (nD (Nat.gcd a b)) W := by
  refine ret_of ?_
  unfold F_divisor f_divisor
  refine wF_run rfl (by repeat (first | with_reducible exact st_0 | with_reducible apply st_d | with_reducible apply st_n)) ?_
  (repeat' get_elem_tactic_trivial)
  refine wS_while (fun c => ∃ x y : Nat, c = ⟨[some (false, nD x), some (false, nD y)], W⟩ ∧ Nat.gcd x y = Nat.gcd a b) (fun c : Cfg => match c.r[1]? with | some (some (_, D.int i)) => i.toNat | _ => 0) ⟨a, b, rfl, rfl⟩ (by show (b : Int).toNat < (b : Int).natAbs + 2; omega) (fun c hI => ?_)
  obtain ⟨x, y, rfl, hg⟩ := hI
  (repeat' get_elem_tactic_trivial)
  refine onBl_d (fun g => ?_) (fun g => ?_)
  · (repeat' get_elem_tactic_trivial)
    refine ⟨⟨y, x % y, rfl, ?_⟩, ?_⟩
    · rw [← hg, Nat.gcd_comm y, ← Nat.gcd_rec, Nat.gcd_comm]
    · show ((x : Int) % (y : Int)).toNat < (y : Int).toNat
      rw [← Int.natCast_emod, Int.toNat_natCast, Int.toNat_natCast]
      exact Nat.mod_lt _ (by omega)
  · have : y = 0 := by omega
    subst this
    (repeat' get_elem_tactic_trivial)
    refine ⟨rfl, ?_, rfl⟩
    rw [← hg, Nat.gcd_zero_right]
theorem law_divisor_eq (a b : Nat) (W : Wd) : F__law_divisor [nD a, nD b] W = .ret false (nD (Nat.gcd a b)) W := divisor_eq a b W
/-! ### moves, walked -/
def mvS (b : Bool) : Mv → D
  | .swap t u w v => sqD b [.str "swap", nD t, nD u, nD w, nD v]
  | .turn t n a => sqD b [.str "turn", nD t, nD n, nD a]
  | .rev t n => sqD b [.str "reverse", nD t, nD n]
  | .deal t r c => sqD b [.str "deal", nD t, nD r, nD c]
  | .str t n a => sqD b [.str "stride", nD t, nD n, nD a]
theorem mvS_L (b : Bool) (m : Mv) : mvS b m = sqD b (mvL m) := by cases m <;> rfl
theorem size_eq (b : Bool) (m : Mv) (W : Wd) (P : Nat) (h : m.ok P) (hP : P ≤ 1000000000000000000) : F_size_of [mvS b m] W = .ret false (nD m.sz) W := by
  have h0 := h.1
  have h1 := h.2
  refine ret_of ?_
  unfold F_size_of f_size_of
  cases m with
  | swap t u w v =>
    cases b <;> (dsimp only [mvS, sqD]; refine wF_run rfl (by repeat (first | with_reducible exact st_0 | with_reducible apply st_d | with_reducible apply st_n)) ?_; (repeat' get_elem_tactic_trivial); exact ⟨rfl, rfl, rfl⟩)
  | turn t n a =>
    cases b <;> (dsimp only [mvS, sqD]; refine wF_run rfl (by repeat (first | with_reducible exact st_0 | with_reducible apply st_d | with_reducible apply st_n)) ?_; (repeat' get_elem_tactic_trivial); exact ⟨rfl, rfl, rfl⟩)
  | rev t n =>
    cases b <;> (dsimp only [mvS, sqD]; refine wF_run rfl (by repeat (first | with_reducible exact st_0 | with_reducible apply st_d | with_reducible apply st_n)) ?_; (repeat' get_elem_tactic_trivial); exact ⟨rfl, rfl, rfl⟩)
  | deal t r c =>
    dsimp only [Mv.at_, Mv.sz] at h0
    dsimp only at h1
    have hr : r ≤ r * c := Nat.le_mul_of_pos_right r (by omega)
    cases b <;> (dsimp only [mvS, sqD]; refine wF_run rfl (by repeat (first | with_reducible exact st_0 | with_reducible apply st_d | with_reducible apply st_n)) ?_; (repeat' get_elem_tactic_trivial); exact ⟨rfl, congrArg D.int (Int.natCast_mul _ _).symm, rfl⟩)
  | str t n a =>
    cases b <;> (dsimp only [mvS, sqD]; refine wF_run rfl (by repeat (first | with_reducible exact st_0 | with_reducible apply st_d | with_reducible apply st_n)) ?_; (repeat' get_elem_tactic_trivial); exact ⟨rfl, rfl, rfl⟩)
theorem law_size_eq (m : Mv) (W : Wd) (P : Nat) (h : m.ok P) (hP : P ≤ 1000000000000000000) : F__law_size [mvS false m] W = .ret false (nD m.sz) W := by
  have h0 := h.1
  have h1 := h.2
  refine ret_of ?_
  unfold F__law_size f__law_size
  cases m with
  | swap t u w v =>
    dsimp only [mvS, sqD]; refine wF_run rfl (by repeat (first | with_reducible exact st_0 | with_reducible apply st_d | with_reducible apply st_n)) ?_; (repeat' get_elem_tactic_trivial); exact ⟨rfl, rfl, rfl⟩
  | turn t n a =>
    dsimp only [mvS, sqD]; refine wF_run rfl (by repeat (first | with_reducible exact st_0 | with_reducible apply st_d | with_reducible apply st_n)) ?_; (repeat' get_elem_tactic_trivial); exact ⟨rfl, rfl, rfl⟩
  | rev t n =>
    dsimp only [mvS, sqD]; refine wF_run rfl (by repeat (first | with_reducible exact st_0 | with_reducible apply st_d | with_reducible apply st_n)) ?_; (repeat' get_elem_tactic_trivial); exact ⟨rfl, rfl, rfl⟩
  | deal t r c =>
    dsimp only [Mv.at_, Mv.sz] at h0
    dsimp only at h1
    have hr : r ≤ r * c := Nat.le_mul_of_pos_right r (by omega)
    dsimp only [mvS, sqD]; refine wF_run rfl (by repeat (first | with_reducible exact st_0 | with_reducible apply st_d | with_reducible apply st_n)) ?_; (repeat' get_elem_tactic_trivial); exact ⟨rfl, congrArg D.int (Int.natCast_mul _ _).symm, rfl⟩
  | str t n a =>
    dsimp only [mvS, sqD]; refine wF_run rfl (by repeat (first | with_reducible exact st_0 | with_reducible apply st_d | with_reducible apply st_n)) ?_; (repeat' get_elem_tactic_trivial); exact ⟨rfl, rfl, rfl⟩
/-- where an entry goes, as the package tells it -/
theorem moved_eq (m : Mv) (p P : Nat) (W : Wd) (h : m.ok P) (hP : P ≤ 1000000000000000000) (hp : p < P) : F_moved [mvS false m, nD p] W = .ret false (nD (m.go p)) W := by
  have h0 := h.1
  have h1 := h.2
  have hsz := size_eq false m W P h hP
  refine ret_of ?_
  unfold F_moved f_moved
  by_cases g : m.at_ ≤ p ∧ p < m.at_ + m.sz
  · have hgo : m.go p = m.at_ + m.off (p - m.at_) := if_pos g
    rw [hgo]
    obtain ⟨i, hi⟩ : ∃ i, p = m.at_ + i := ⟨p - m.at_, by omega⟩
    have hii : p - m.at_ = i := by omega
    rw [hii]
    have hil : i < m.sz := by omega
    clear hgo hii g
    subst hi
    have ii : ((m.at_ + i : Nat) : Int) - (m.at_ : Int) = (i : Int) := by omega
    cases m with
    | swap t u w v =>
      dsimp only [Mv.at_, Mv.sz, Mv.off] at *
      dsimp only [mvS, sqD] at *
      refine wF_run rfl (by repeat (first | with_reducible exact st_0 | with_reducible apply st_d | with_reducible apply st_n)) ?_; (repeat' get_elem_tactic_trivial)
      refine call_ret hsz rfl ?_
      rw [ii]
      (repeat' get_elem_tactic_trivial)
      refine onBl_d (fun a1 => ?_) (fun a1 => ?_)
      · (repeat' get_elem_tactic_trivial)
        refine ⟨rfl, ?_, rfl⟩
        rw [if_pos (by omega)]
        exact congrArg D.int (by omega)
      · (repeat' get_elem_tactic_trivial)
        refine onBl_d (fun a2 => ?_) (fun a2 => ?_)
        · (repeat' get_elem_tactic_trivial)
          refine ⟨rfl, ?_, rfl⟩
          rw [if_neg (by omega), if_pos (by omega)]
          exact congrArg D.int (by omega)
        · (repeat' get_elem_tactic_trivial)
          refine ⟨rfl, ?_, rfl⟩
          rw [if_neg (by omega), if_neg (by omega)]
          exact congrArg D.int (by omega)
    | turn t n a =>
      dsimp only [Mv.at_, Mv.sz, Mv.off] at *
      dsimp only [mvS, sqD] at *
      refine wF_run rfl (by repeat (first | with_reducible exact st_0 | with_reducible apply st_d | with_reducible apply st_n)) ?_; (repeat' get_elem_tactic_trivial)
      refine call_ret hsz rfl ?_
      rw [ii]
      (repeat' get_elem_tactic_trivial)
      refine ⟨rfl, congrArg D.int ?_, rfl⟩
      rw [Int.natCast_add, Int.natCast_emod, Int.natCast_add]
    | rev t n =>
      dsimp only [Mv.at_, Mv.sz, Mv.off] at *
      dsimp only [mvS, sqD] at *
      refine wF_run rfl (by repeat (first | with_reducible exact st_0 | with_reducible apply st_d | with_reducible apply st_n)) ?_; (repeat' get_elem_tactic_trivial)
      refine call_ret hsz rfl ?_
      rw [ii]
      (repeat' get_elem_tactic_trivial)
      exact ⟨rfl, congrArg D.int (by omega), rfl⟩
    | deal t r c =>
      dsimp only [Mv.at_, Mv.sz, Mv.off] at *
      dsimp only [mvS, sqD] at *
      have hr : r ≤ r * c := Nat.le_mul_of_pos_right r (by omega)
      have hc : c ≤ r * c := Nat.le_mul_of_pos_left c (by omega)
      refine wF_run rfl (by repeat (first | with_reducible exact st_0 | with_reducible apply st_d | with_reducible apply st_n)) ?_; (repeat' get_elem_tactic_trivial)
      refine call_ret hsz rfl ?_
      rw [ii]
      (repeat' get_elem_tactic_trivial)
      refine ⟨rfl, congrArg D.int ?_, rfl⟩
      rw [Int.natCast_add, Int.natCast_add, Int.natCast_mul, Int.natCast_emod, Int.natCast_ediv, Int.add_assoc]
    | str t n a =>
      dsimp only [Mv.at_, Mv.sz, Mv.off] at *
      dsimp only [mvS, sqD] at *
      refine wF_run rfl (by repeat (first | with_reducible exact st_0 | with_reducible apply st_d | with_reducible apply st_n)) ?_; (repeat' get_elem_tactic_trivial)
      refine call_ret hsz rfl ?_
      rw [ii]
      (repeat' get_elem_tactic_trivial)
      refine ⟨rfl, congrArg D.int ?_, rfl⟩
      rw [Int.natCast_add, Int.natCast_emod, Int.natCast_mul]
  · have hgo : m.go p = p := if_neg g
    rw [hgo]
    clear hgo
    have hx1 : gIx (mvS false m) (.int 1) = some (.st, nD m.at_) := by cases m <;> rfl
    generalize mvS false m = z at *
    refine wF_run rfl (by repeat (first | with_reducible exact st_0 | with_reducible apply st_d | with_reducible apply st_n)) ?_; (repeat' get_elem_tactic_trivial)
    refine wO_some hx1 ?_
    (repeat' get_elem_tactic_trivial)
    refine wO_some hx1 ?_
    (repeat' get_elem_tactic_trivial)
    refine onBl_d (fun a1 => ?_) (fun a1 => ?_)
    · (repeat' get_elem_tactic_trivial)
      exact ⟨rfl, rfl, rfl⟩
    · (repeat' get_elem_tactic_trivial)
      refine call_ret hsz rfl ?_
      (repeat' get_elem_tactic_trivial)
      exact ⟨rfl, rfl, rfl⟩
/-- as the law tells it -/
theorem goes_eq (m : Mv) (p P : Nat) (W : Wd) (h : m.ok P) (hP : P ≤ 1000000000000000000) (hp : p < P) : F__law_goes [mvS false m, nD p] W = .ret false (nD (m.go p)) W := by
  have h0 := h.1
  have h1 := h.2
  have hsz := law_size_eq m W P h hP
  refine ret_of ?_
  unfold F__law_goes f__law_goes
  by_cases g : m.at_ ≤ p ∧ p < m.at_ + m.sz
  · have hgo : m.go p = m.at_ + m.off (p - m.at_) := if_pos g
    rw [hgo]
    obtain ⟨i, hi⟩ : ∃ i, p = m.at_ + i := ⟨p - m.at_, by omega⟩
    have hii : p - m.at_ = i := by omega
    rw [hii]
    have hil : i < m.sz := by omega
    clear hgo hii g
    subst hi
    have ii : ((m.at_ + i : Nat) : Int) - (m.at_ : Int) = (i : Int) := by omega
    cases m with
    | swap t u w v =>
      dsimp only [Mv.at_, Mv.sz, Mv.off] at *
      dsimp only [mvS, sqD] at *
      refine wF_run rfl (by repeat (first | with_reducible exact st_0 | with_reducible apply st_d | with_reducible apply st_n)) ?_; (repeat' get_elem_tactic_trivial)
      refine call_ret hsz rfl ?_
      rw [ii]
      (repeat' get_elem_tactic_trivial)
      refine onBl_d (fun a1 => ?_) (fun a1 => ?_)
      · (repeat' get_elem_tactic_trivial)
        refine ⟨rfl, ?_, rfl⟩
        rw [if_pos (by omega)]
        exact congrArg D.int (by omega)
      · (repeat' get_elem_tactic_trivial)
        refine onBl_d (fun a2 => ?_) (fun a2 => ?_)
        · (repeat' get_elem_tactic_trivial)
          refine ⟨rfl, ?_, rfl⟩
          rw [if_neg (by omega), if_pos (by omega)]
          exact congrArg D.int (by omega)
        · (repeat' get_elem_tactic_trivial)
          refine ⟨rfl, ?_, rfl⟩
          rw [if_neg (by omega), if_neg (by omega)]
          exact congrArg D.int (by omega)
    | turn t n a =>
      dsimp only [Mv.at_, Mv.sz, Mv.off] at *
      dsimp only [mvS, sqD] at *
      refine wF_run rfl (by repeat (first | with_reducible exact st_0 | with_reducible apply st_d | with_reducible apply st_n)) ?_; (repeat' get_elem_tactic_trivial)
      refine call_ret hsz rfl ?_
      rw [ii]
      (repeat' get_elem_tactic_trivial)
      refine ⟨rfl, congrArg D.int ?_, rfl⟩
      rw [Int.natCast_add, Int.natCast_emod, Int.natCast_add]
    | rev t n =>
      dsimp only [Mv.at_, Mv.sz, Mv.off] at *
      dsimp only [mvS, sqD] at *
      refine wF_run rfl (by repeat (first | with_reducible exact st_0 | with_reducible apply st_d | with_reducible apply st_n)) ?_; (repeat' get_elem_tactic_trivial)
      refine call_ret hsz rfl ?_
      rw [ii]
      (repeat' get_elem_tactic_trivial)
      exact ⟨rfl, congrArg D.int (by omega), rfl⟩
    | deal t r c =>
      dsimp only [Mv.at_, Mv.sz, Mv.off] at *
      dsimp only [mvS, sqD] at *
      have hr : r ≤ r * c := Nat.le_mul_of_pos_right r (by omega)
      have hc : c ≤ r * c := Nat.le_mul_of_pos_left c (by omega)
      refine wF_run rfl (by repeat (first | with_reducible exact st_0 | with_reducible apply st_d | with_reducible apply st_n)) ?_; (repeat' get_elem_tactic_trivial)
      refine call_ret hsz rfl ?_
      rw [ii]
      (repeat' get_elem_tactic_trivial)
      refine ⟨rfl, congrArg D.int ?_, rfl⟩
      rw [Int.natCast_add, Int.natCast_add, Int.natCast_mul, Int.natCast_emod, Int.natCast_ediv, Int.add_assoc]
    | str t n a =>
      dsimp only [Mv.at_, Mv.sz, Mv.off] at *
      dsimp only [mvS, sqD] at *
      refine wF_run rfl (by repeat (first | with_reducible exact st_0 | with_reducible apply st_d | with_reducible apply st_n)) ?_; (repeat' get_elem_tactic_trivial)
      refine call_ret hsz rfl ?_
      rw [ii]
      (repeat' get_elem_tactic_trivial)
      refine ⟨rfl, congrArg D.int ?_, rfl⟩
      rw [Int.natCast_add, Int.natCast_emod, Int.natCast_mul]
  · have hgo : m.go p = p := if_neg g
    rw [hgo]
    clear hgo
    have hx1 : gIx (mvS false m) (.int 1) = some (.st, nD m.at_) := by cases m <;> rfl
    generalize mvS false m = z at *
    refine wF_run rfl (by repeat (first | with_reducible exact st_0 | with_reducible apply st_d | with_reducible apply st_n)) ?_; (repeat' get_elem_tactic_trivial)
    refine wO_some hx1 ?_
    (repeat' get_elem_tactic_trivial)
    refine wO_some hx1 ?_
    (repeat' get_elem_tactic_trivial)
    refine onBl_d (fun a1 => ?_) (fun a1 => ?_)
    · (repeat' get_elem_tactic_trivial)
      exact ⟨rfl, rfl, rfl⟩
    · (repeat' get_elem_tactic_trivial)
      refine call_ret hsz rfl ?_
      (repeat' get_elem_tactic_trivial)
      exact ⟨rfl, rfl, rfl⟩
end DL.K56
namespace DL.K56
open PySem PySem.Spec PyProof.Rows L2 DL
local macro_rules | `(tactic| get_elem_tactic_trivial) => `(tactic| first
  | ((with_reducible show wpC (tgUnl _ _ _ _) _); first | refine wC_unl rfl rfl ?_)
  | ((with_reducible refine t_M ?_); refine tM_i rfl (by repeat (first | with_reducible exact set_0 | with_reducible apply set_s)) ?_)
  | ((with_reducible show wpS (sApp _ _ _) _); first | refine wS_app rfl ?_)
  | ((with_reducible show appK _ _ _ _ _); first | refine app_st (by first | exact st_nb | exact fr_nb) rfl (by first | omega | (simp <;> omega)) (by repeat (first | with_reducible exact set_0 | with_reducible apply set_s)) ?_ | fail)
  | ((with_reducible show ownK _ _ _); first | refine own_i rfl ?_)
  | ((with_reducible show wpS (sAppPop _ _ _ _) _); first | refine wS_appPop rfl rfl ?_) | fail)
local macro_rules | `(tactic| get_elem_tactic_trivial) => `(tactic| first
  | with_reducible refine wS_drop ?_
  | with_reducible refine wS_retN ?_
  | with_reducible refine wS_brk ?_
  | with_reducible refine wS_cnt ?_
  | ((with_reducible show par3K _ _ _ _ _ _); first | refine par3_st (lt_of_ble rfl) (lt_of_ble rfl) (lt_of_ble rfl) (by repeat (first | with_reducible exact set_0 | with_reducible apply set_s)) (by repeat (first | with_reducible exact set_0 | with_reducible apply set_s)) (by repeat (first | with_reducible exact set_0 | with_reducible apply set_s)) ?_)
  | ((with_reducible show wpC (tgTup _ _ _ _) _); first | refine wC_tup rfl rfl ?_) | fail)
local macro_rules | `(tactic| get_elem_tactic_trivial) => `(tactic| first
  | with_reducible refine wS_asg ?_
  | with_reducible refine wC_cons ?_
  | with_reducible refine wC_nil ?_
  | with_reducible refine wS_putI ?_
  | with_reducible refine wS_swapI ?_
  | with_reducible refine swap_i ?_ | fail)
local macro_rules | `(tactic| get_elem_tactic_trivial) => `(tactic| first
  | with_reducible refine wO_rep_non ?_
  | ((with_reducible show wpO (gRep0 _) _); first | refine wO_rep_bl rfl ?_)
  | with_reducible refine wO_all ?_
  | with_reducible refine wO_any ?_
  | with_reducible refine wS_parK ?_
  | with_reducible refine wS_par3 ?_ | fail)
local macro_rules | `(tactic| get_elem_tactic_trivial) => `(tactic| first
  | ((with_reducible show wpO (gMin2 _ _) _); first | refine wO_min2 rfl rfl ?_)
  | ((with_reducible show wpO (gIx _ _) _); first | refine wO_ix rfl rfl (by first | omega | with_reducible assumption) ?_ | refine wO_ix_last rfl rfl (by first | with_reducible assumption | simp) ?_ | refine wO_ixi rfl rfl (by first | omega | with_reducible assumption) ?_ | refine wO_ixl rfl ?_)
  | ((with_reducible show wpO (gErrIs _ _) _); first | refine wO_errIs rfl ?_)
  | ((with_reducible show wpO (gIsi _ _) _); first | refine wO_isi rfl ?_)
  | ((with_reducible show wpO (gSl _ _ _) _); first | refine wO_slL rfl ?_ | refine wO_slT rfl ?_)
  | ((with_reducible show wpO (gRev _) _); first | refine wO_revL rfl ?_ | refine wO_revT rfl ?_) | fail)
local macro_rules | `(tactic| get_elem_tactic_trivial) => `(tactic| first
  | ((with_reducible show wpO (gLen _) _); first | refine wO_lenm rfl ?_ | refine wO_len rfl ?_)
  | ((with_reducible show wpO (gList _) _); first | refine wO_list rfl ?_)
  | ((with_reducible show wpO (gTuple _) _); first | refine wO_tuple rfl ?_)
  | ((with_reducible show wpO (gInt _) _); first | refine wO_int rfl ?_)
  | ((with_reducible show wpO (gAbs _) _); first | refine wO_abs rfl ?_)
  | ((with_reducible show wpO (gMax2 _ _) _); first | refine wO_max2 rfl rfl ?_) | fail)
local macro_rules | `(tactic| get_elem_tactic_trivial) => `(tactic| first
  | ((with_reducible show wpO (gGe _ _) _); first | refine wO_ge rfl rfl ?_)
  | ((with_reducible show wpO (gEq _ _) _); first | refine wO_eqI rfl rfl ?_ | refine wO_eqB rfl rfl ?_ | refine wO_eqSt (tx_of _).ok (tx_of _).ok (by decide) ?_ | refine wO_eqSf (tx_of _).ok (tx_of _).ok (by decide) ?_ | fail)
  | ((with_reducible show wpO (gNe _ _) _); first | refine wO_neI rfl rfl ?_ | refine wO_neB rfl rfl ?_)
  | with_reducible refine wO_isN ?_
  | with_reducible refine wO_notN ?_
  | ((with_reducible show wpO (gIsB _ _) _); first | refine wO_isB rfl rfl ?_) | fail)
local macro_rules | `(tactic| get_elem_tactic_trivial) => `(tactic| first
  | ((with_reducible show wpO (gMul _ _) _); first | refine wO_mul rfl rfl (mulOk_small (by omega)) ?_ | refine wO_mul rfl rfl (mulOk_r (by omega)) ?_ | refine wO_mul rfl rfl (by with_reducible assumption) ?_ | fail)
  | ((with_reducible show wpO (gFdiv _ _) _); first | refine wO_fdiv rfl rfl (fdivOk_small (by omega)) ?_ | refine wO_fdiv rfl rfl (by first | with_reducible assumption | rfl) ?_ | fail)
  | ((with_reducible show wpO (gMod _ _) _); first | refine wO_mod rfl rfl (by first | omega | with_reducible assumption) ?_ | fail)
  | ((with_reducible show wpO (gLt _ _) _); first | refine wO_lt rfl rfl ?_)
  | ((with_reducible show wpO (gLe _ _) _); first | refine wO_le rfl rfl ?_)
  | ((with_reducible show wpO (gGt _ _) _); first | refine wO_gt rfl rfl ?_) | fail)
local macro_rules | `(tactic| get_elem_tactic_trivial) => `(tactic| first
  | ((with_reducible show lenB _ _); first | refine lenB_i (by first | omega | (simp <;> omega)) ?_ | fail)
  | ((with_reducible show in62 _ _); first | refine in62_i (by first | omega | with_reducible assumption) (by first | omega | with_reducible assumption) ?_ | fail)
  | ((with_reducible show inM _ _); first | refine inM_i (by first | omega | with_reducible assumption) (by first | omega | with_reducible assumption) ?_ | fail)
  | ((with_reducible show onBl _ _ _); first | with_reducible refine onBl_t ?_ | with_reducible refine onBl_f ?_ | with_reducible refine onBl_nt ?_ | with_reducible refine onBl_nf ?_ | with_reducible refine onBl_dt (by first | omega | with_reducible assumption) ?_ | with_reducible refine onBl_df (by first | omega | with_reducible assumption) ?_ | with_reducible refine onBl_ndt (by first | omega | with_reducible assumption) ?_ | with_reducible refine onBl_ndf (by first | omega | with_reducible assumption) ?_ | fail)
  | ((with_reducible show wpO (gAdd _ _) _); first | refine wO_add rfl rfl ?_ | refine wO_catT rfl rfl (by first | omega | (simp <;> omega)) ?_ | refine wO_catL rfl rfl (by first | omega | (simp <;> omega)) ?_ | refine wO_catT rfl rfl ?_ ?_ | refine wO_catL rfl rfl ?_ ?_)
  | ((with_reducible show wpO (gSubI _ _) _); first | refine wO_sub rfl rfl ?_) | fail)
local macro_rules | `(tactic| get_elem_tactic_trivial) => `(tactic| first
  | ((with_reducible show lstK _ _); first | refine lst_i ?_)
  | ((with_reducible show itK _ _ _ _); first | refine it_seq st_nb rfl ?_ | refine it_seq fr_nb rfl ?_)
  | ((with_reducible show enK _ _ _); first | refine en_seq rfl ?_)
  | ((with_reducible show isBl _ _); first | refine isBl_i rfl ?_)
  | ((with_reducible show isInt _ _); first | refine isInt_i rfl ?_)
  | ((with_reducible show isTru _ _); first | refine isTru_i rfl ?_) | fail)
local macro_rules | `(tactic| get_elem_tactic_trivial) => `(tactic| first
  | with_reducible refine wA_zip ?_
  | with_reducible refine wE_lm ?_
  | with_reducible refine wE_dK0 ?_
  | with_reducible refine wE_dT0 ?_
  | with_reducible refine wA_R3 ?_
  | ((with_reducible show zipK _ _ _); first | refine zip_l ?_ | refine zip_t ?_ | refine zip_lt ?_) | fail)
local macro_rules | `(tactic| get_elem_tactic_trivial) => `(tactic| first
  | with_reducible refine wS_nil ?_
  | with_reducible refine wS_for ?_
  | with_reducible refine wA_it ?_
  | with_reducible refine wA_en ?_
  | with_reducible refine wA_R1 ?_
  | with_reducible refine wA_R2 ?_ | fail)
local macro_rules | `(tactic| get_elem_tactic_trivial) => `(tactic| first
  | with_reducible refine wL_el ?_
  | with_reducible refine wL_cl ?_
  | with_reducible refine wV_none ?_
  | with_reducible refine wV_some ?_
  | with_reducible refine And.intro st_nb ?_
  | with_reducible refine And.intro fr_nb ?_ | fail)
local macro_rules | `(tactic| get_elem_tactic_trivial) => `(tactic| first
  | with_reducible refine wE_callK2 ?_
  | with_reducible refine wE_sl ?_
  | with_reducible refine wE_LRg ?_
  | with_reducible refine wE_TRg ?_
  | with_reducible refine wE_lc ?_
  | with_reducible refine wE_lcN ?_ | fail)
local macro_rules | `(tactic| get_elem_tactic_trivial) => `(tactic| first
  | with_reducible refine wE_tru ?_
  | with_reducible refine wE_if ?_
  | with_reducible refine wE_tup ?_
  | with_reducible refine wE_lst ?_
  | with_reducible refine wE_neg ?_
  | with_reducible refine wE_ev3 ?_ | fail)
local macro_rules | `(tactic| get_elem_tactic_trivial) => `(tactic| first
  | ((with_reducible refine p_Mf ?_); refine pM_f rfl (by repeat (first | with_reducible exact set_0 | with_reducible apply set_s)) ?_)
  | with_reducible refine wE_ev1 ?_
  | with_reducible refine wE_ev2 ?_
  | with_reducible refine wE_and ?_
  | with_reducible refine wE_or ?_
  | with_reducible refine wE_not ?_ | fail)
local macro_rules | `(tactic| get_elem_tactic_trivial) => `(tactic| first
  | with_reducible refine wA_nil ?_
  | with_reducible refine wE_evC ?_
  | ((with_reducible refine v_M ?_); refine vM_a rfl (by repeat (first | with_reducible exact set_0 | with_reducible apply set_s)) ?_)
  | ((with_reducible refine b_M ?_); refine bM_i rfl ?_)
  | ((with_reducible refine m_M ?_); first | refine mM_s rfl ?_ | refine mM_o rfl (by repeat (first | with_reducible exact set_0 | with_reducible apply set_s)) ?_)
  | ((with_reducible refine p_Ms ?_); refine pM_s rfl (by repeat (first | with_reducible exact set_0 | with_reducible apply set_s)) ?_) | fail)
local macro_rules | `(tactic| get_elem_tactic_trivial) => `(tactic| first
  | with_reducible refine wS_if ?_
  | with_reducible refine wS_ret ?_
  | with_reducible refine ret_st ?_
  | with_reducible refine ret_fr ?_
  | with_reducible refine wE_call ?_
  | with_reducible refine wA_cons ?_ | fail)
local macro_rules | `(tactic| get_elem_tactic_trivial) => `(tactic| first
  | with_reducible refine wE_errAt ?_
  | ((with_reducible show errK _ _ _ _); first | refine err_i rfl ?_)
  | ((with_reducible show tryK _ _ _ _ _ _); first | refine try_yes rfl rfl (by repeat (first | with_reducible exact set_0 | with_reducible apply set_s)) ?_ | refine try_no rfl ?_)
  | ((with_reducible show try0K _ _ _ _ _); first | refine try0_yes rfl ?_ | refine try0_no rfl ?_)
  | with_reducible refine wS_seq ?_
  | with_reducible refine wS_set ?_ | fail)
local macro_rules | `(tactic| get_elem_tactic_trivial) => `(tactic| first
  | with_reducible refine wS_raise ?_
  | with_reducible refine raise_st ?_
  | with_reducible refine raise_fr ?_
  | with_reducible refine wS_try ?_
  | with_reducible refine wS_try0 ?_
  | with_reducible refine wE_ref ?_ | fail)
/-! ### what is a move -/
theorem cut_1 (d : D) (ds : List D) : cutD (d :: ds) (some 1) none = ds := by
  have := cut_n0' (id : D → D) (d :: ds) 1 (by simp)
  rw [List.map_id] at this
  rw [show ((1 : Nat) : Int) = 1 from rfl] at this
  rw [this, List.map_id]
  rfl
theorem is_move_eq (b : Bool) (m : Mv) (W : Wd) (P : Nat) (h : m.ok P) (hP : P ≤ 1000000000000000000) : F_is_move [nD P, mvS b m] W = .ret false (.bl true) W := by
  have h0 := h.1
  have h1 := h.2
  have hsz := size_eq b m W P h hP
  refine ret_of ?_
  unfold F_is_move f_is_move
  cases m with
  | swap t u w v =>
    dsimp only [Mv.at_, Mv.sz] at *
    cases b <;>
    (dsimp only [mvS, sqD] at *
     have q0 := is_sequence_eq (sqD false [.str "swap", nD t, nD u, nD w, nD v]) W rfl
     have q1 := is_sequence_eq (sqD true [.str "swap", nD t, nD u, nD w, nD v]) W rfl
     dsimp only [sqD, isSeqD] at q0 q1
     refine wF_run rfl (by repeat (first | with_reducible exact st_0 | with_reducible apply st_d | with_reducible apply st_n)) ?_; (repeat' get_elem_tactic_trivial)
     (first | refine call_ret q0 rfl ?_ | refine call_ret q1 rfl ?_)
     (repeat' get_elem_tactic_trivial)
     refine onBl_df (by simp) ?_
     (repeat' get_elem_tactic_trivial)
     refine wO_some (k := .st) (d := .bl false) rfl ?_
     (repeat' get_elem_tactic_trivial)
     refine wO_some (k := .st) (d := .int 4) rfl ?_
     (repeat' get_elem_tactic_trivial)
     refine onBl_ndf (by simp) ?_
     (repeat' get_elem_tactic_trivial)
     rw [cut_1]
     refine lc_alleq (xs := [t, u, w, v]) nD (fun _ => .bl true) (by simp) (by repeat (first | with_reducible exact wipe_nil | with_reducible apply wipe_cons | with_reducible exact set_0 | with_reducible apply set_s)) (fun x hx => ?_) ?_
     · (repeat' get_elem_tactic_trivial)
       refine call_ret (is_number_eq (nD x) W rfl) rfl ?_
       rw [isNum_n]
       exact ⟨st_nb, rfl, (by (refine mrg_i ?_; repeat (first | exact mrg_nil | refine mrg_in rfl (by first | with_reducible assumption | rfl) ?_ | refine mrg_out rfl ?_)))⟩
     refine wO_all (f := fun _ : Nat => true) (xs := [t, u, w, v]) ?_
     rw [show ([t, u, w, v].all fun _ => true) = true from rfl]
     (repeat' get_elem_tactic_trivial)
     refine call_ret hsz rfl ?_
     (repeat' get_elem_tactic_trivial)
     exact ⟨rfl, congrArg D.bl (decide_eq_true (by omega)), rfl⟩)
  | turn t n a =>
    dsimp only [Mv.at_, Mv.sz] at *
    cases b <;>
    (dsimp only [mvS, sqD] at *
     have q0 := is_sequence_eq (sqD false [.str "turn", nD t, nD n, nD a]) W rfl
     have q1 := is_sequence_eq (sqD true [.str "turn", nD t, nD n, nD a]) W rfl
     dsimp only [sqD, isSeqD] at q0 q1
     refine wF_run rfl (by repeat (first | with_reducible exact st_0 | with_reducible apply st_d | with_reducible apply st_n)) ?_; (repeat' get_elem_tactic_trivial)
     (first | refine call_ret q0 rfl ?_ | refine call_ret q1 rfl ?_)
     (repeat' get_elem_tactic_trivial)
     refine onBl_df (by simp) ?_
     (repeat' get_elem_tactic_trivial)
     refine wO_some (k := .st) (d := .bl false) rfl ?_
     (repeat' get_elem_tactic_trivial)
     refine wO_some (k := .st) (d := .int 3) rfl ?_
     (repeat' get_elem_tactic_trivial)
     refine onBl_ndf (by simp) ?_
     (repeat' get_elem_tactic_trivial)
     rw [cut_1]
     refine lc_alleq (xs := [t, n, a]) nD (fun _ => .bl true) (by simp) (by repeat (first | with_reducible exact wipe_nil | with_reducible apply wipe_cons | with_reducible exact set_0 | with_reducible apply set_s)) (fun x hx => ?_) ?_
     · (repeat' get_elem_tactic_trivial)
       refine call_ret (is_number_eq (nD x) W rfl) rfl ?_
       rw [isNum_n]
       exact ⟨st_nb, rfl, (by (refine mrg_i ?_; repeat (first | exact mrg_nil | refine mrg_in rfl (by first | with_reducible assumption | rfl) ?_ | refine mrg_out rfl ?_)))⟩
     refine wO_all (f := fun _ : Nat => true) (xs := [t, n, a]) ?_
     rw [show ([t, n, a].all fun _ => true) = true from rfl]
     (repeat' get_elem_tactic_trivial)
     refine call_ret hsz rfl ?_
     (repeat' get_elem_tactic_trivial)
     exact ⟨rfl, congrArg D.bl (decide_eq_true (by omega)), rfl⟩)
  | rev t n =>
    dsimp only [Mv.at_, Mv.sz] at *
    cases b <;>
    (dsimp only [mvS, sqD] at *
     have q0 := is_sequence_eq (sqD false [.str "reverse", nD t, nD n]) W rfl
     have q1 := is_sequence_eq (sqD true [.str "reverse", nD t, nD n]) W rfl
     dsimp only [sqD, isSeqD] at q0 q1
     refine wF_run rfl (by repeat (first | with_reducible exact st_0 | with_reducible apply st_d | with_reducible apply st_n)) ?_; (repeat' get_elem_tactic_trivial)
     (first | refine call_ret q0 rfl ?_ | refine call_ret q1 rfl ?_)
     (repeat' get_elem_tactic_trivial)
     refine onBl_df (by simp) ?_
     (repeat' get_elem_tactic_trivial)
     refine wO_some (k := .st) (d := .bl false) rfl ?_
     (repeat' get_elem_tactic_trivial)
     refine wO_some (k := .st) (d := .int 2) rfl ?_
     (repeat' get_elem_tactic_trivial)
     refine onBl_ndf (by simp) ?_
     (repeat' get_elem_tactic_trivial)
     rw [cut_1]
     refine lc_alleq (xs := [t, n]) nD (fun _ => .bl true) (by simp) (by repeat (first | with_reducible exact wipe_nil | with_reducible apply wipe_cons | with_reducible exact set_0 | with_reducible apply set_s)) (fun x hx => ?_) ?_
     · (repeat' get_elem_tactic_trivial)
       refine call_ret (is_number_eq (nD x) W rfl) rfl ?_
       rw [isNum_n]
       exact ⟨st_nb, rfl, (by (refine mrg_i ?_; repeat (first | exact mrg_nil | refine mrg_in rfl (by first | with_reducible assumption | rfl) ?_ | refine mrg_out rfl ?_)))⟩
     refine wO_all (f := fun _ : Nat => true) (xs := [t, n]) ?_
     rw [show ([t, n].all fun _ => true) = true from rfl]
     (repeat' get_elem_tactic_trivial)
     refine call_ret hsz rfl ?_
     (repeat' get_elem_tactic_trivial)
     exact ⟨rfl, congrArg D.bl (decide_eq_true (by omega)), rfl⟩)
  | deal t r c =>
    dsimp only [Mv.at_, Mv.sz] at *
    have hr : r ≤ r * c := Nat.le_mul_of_pos_right r (by omega)
    have hc : c ≤ r * c := Nat.le_mul_of_pos_left c (by omega)
    cases b <;>
    (dsimp only [mvS, sqD] at *
     have q0 := is_sequence_eq (sqD false [.str "deal", nD t, nD r, nD c]) W rfl
     have q1 := is_sequence_eq (sqD true [.str "deal", nD t, nD r, nD c]) W rfl
     dsimp only [sqD, isSeqD] at q0 q1
     refine wF_run rfl (by repeat (first | with_reducible exact st_0 | with_reducible apply st_d | with_reducible apply st_n)) ?_; (repeat' get_elem_tactic_trivial)
     (first | refine call_ret q0 rfl ?_ | refine call_ret q1 rfl ?_)
     (repeat' get_elem_tactic_trivial)
     refine onBl_df (by simp) ?_
     (repeat' get_elem_tactic_trivial)
     refine wO_some (k := .st) (d := .bl false) rfl ?_
     (repeat' get_elem_tactic_trivial)
     refine wO_some (k := .st) (d := .int 3) rfl ?_
     (repeat' get_elem_tactic_trivial)
     refine onBl_ndf (by simp) ?_
     (repeat' get_elem_tactic_trivial)
     rw [cut_1]
     refine lc_alleq (xs := [t, r, c]) nD (fun _ => .bl true) (by simp) (by repeat (first | with_reducible exact wipe_nil | with_reducible apply wipe_cons | with_reducible exact set_0 | with_reducible apply set_s)) (fun x hx => ?_) ?_
     · (repeat' get_elem_tactic_trivial)
       refine call_ret (is_number_eq (nD x) W rfl) rfl ?_
       rw [isNum_n]
       exact ⟨st_nb, rfl, (by (refine mrg_i ?_; repeat (first | exact mrg_nil | refine mrg_in rfl (by first | with_reducible assumption | rfl) ?_ | refine mrg_out rfl ?_)))⟩
     refine wO_all (f := fun _ : Nat => true) (xs := [t, r, c]) ?_
     rw [show ([t, r, c].all fun _ => true) = true from rfl]
     (repeat' get_elem_tactic_trivial)
     refine call_ret hsz rfl ?_
     (repeat' get_elem_tactic_trivial)
     exact ⟨rfl, congrArg D.bl (decide_eq_true (by omega)), rfl⟩)
  | str t n a =>
    dsimp only [Mv.at_, Mv.sz] at *
    cases b <;>
    (dsimp only [mvS, sqD] at *
     have q0 := is_sequence_eq (sqD false [.str "stride", nD t, nD n, nD a]) W rfl
     have q1 := is_sequence_eq (sqD true [.str "stride", nD t, nD n, nD a]) W rfl
     dsimp only [sqD, isSeqD] at q0 q1
     refine wF_run rfl (by repeat (first | with_reducible exact st_0 | with_reducible apply st_d | with_reducible apply st_n)) ?_; (repeat' get_elem_tactic_trivial)
     (first | refine call_ret q0 rfl ?_ | refine call_ret q1 rfl ?_)
     (repeat' get_elem_tactic_trivial)
     refine onBl_df (by simp) ?_
     (repeat' get_elem_tactic_trivial)
     refine wO_some (k := .st) (d := .bl false) rfl ?_
     (repeat' get_elem_tactic_trivial)
     refine wO_some (k := .st) (d := .int 3) rfl ?_
     (repeat' get_elem_tactic_trivial)
     refine onBl_ndf (by simp) ?_
     (repeat' get_elem_tactic_trivial)
     rw [cut_1]
     refine lc_alleq (xs := [t, n, a]) nD (fun _ => .bl true) (by simp) (by repeat (first | with_reducible exact wipe_nil | with_reducible apply wipe_cons | with_reducible exact set_0 | with_reducible apply set_s)) (fun x hx => ?_) ?_
     · (repeat' get_elem_tactic_trivial)
       refine call_ret (is_number_eq (nD x) W rfl) rfl ?_
       rw [isNum_n]
       exact ⟨st_nb, rfl, (by (refine mrg_i ?_; repeat (first | exact mrg_nil | refine mrg_in rfl (by first | with_reducible assumption | rfl) ?_ | refine mrg_out rfl ?_)))⟩
     refine wO_all (f := fun _ : Nat => true) (xs := [t, n, a]) ?_
     rw [show ([t, n, a].all fun _ => true) = true from rfl]
     (repeat' get_elem_tactic_trivial)
     refine call_ret (divisor_eq n a W) rfl ?_
     (repeat' get_elem_tactic_trivial)
     refine call_ret hsz rfl ?_
     (repeat' get_elem_tactic_trivial)
     exact ⟨rfl, congrArg D.bl (decide_eq_true (by omega)), rfl⟩)
/-- more places than there are -/
theorem is_move_far (P : Nat) (W : Wd) (hP : P ≤ 1000000000000000000) : F_is_move [nD P, .tup [.str "reverse", .int 0, .int ((P : Int) + 1)]] W = .ret false (.bl false) W := by
  have hsz : F_size_of [.tup [.str "reverse", .int 0, .int ((P : Int) + 1)]] W = .ret false (.int ((P : Int) + 1)) W := by
    have := size_eq false (.rev 0 (P + 1)) W (P + 1) ⟨by show 0 + (P + 1) ≤ P + 1; omega, by show 1 ≤ P + 1; omega⟩
    refine ret_of ?_
    unfold F_size_of f_size_of
    refine wF_run rfl (by repeat (first | with_reducible exact st_0 | with_reducible apply st_d | with_reducible apply st_n)) ?_; (repeat' get_elem_tactic_trivial)
    exact ⟨rfl, rfl, rfl⟩
  refine ret_of ?_
  unfold F_is_move f_is_move
  have q0 := is_sequence_eq (.tup [.str "reverse", .int 0, .int ((P : Int) + 1)]) W rfl
  dsimp only [isSeqD] at q0
  refine wF_run rfl (by repeat (first | with_reducible exact st_0 | with_reducible apply st_d | with_reducible apply st_n)) ?_; (repeat' get_elem_tactic_trivial)
  refine call_ret q0 rfl ?_
  (repeat' get_elem_tactic_trivial)
  refine onBl_df (by simp) ?_
  (repeat' get_elem_tactic_trivial)
  refine wO_some (k := .st) (d := .bl false) rfl ?_
  (repeat' get_elem_tactic_trivial)
  refine wO_some (k := .st) (d := .int 2) rfl ?_
  (repeat' get_elem_tactic_trivial)
  refine onBl_ndf (by simp) ?_
  (repeat' get_elem_tactic_trivial)
  rw [cut_1]
  refine lc_alleq (xs := [0, P + 1]) nD (fun _ => .bl true) (by simp) (by repeat (first | with_reducible exact wipe_nil | with_reducible apply wipe_cons | with_reducible exact set_0 | with_reducible apply set_s)) (fun x hx => ?_) ?_
  · (repeat' get_elem_tactic_trivial)
    refine call_ret (is_number_eq (nD x) W rfl) rfl ?_
    rw [isNum_n]
    exact ⟨st_nb, rfl, (by (refine mrg_i ?_; repeat (first | exact mrg_nil | refine mrg_in rfl (by first | with_reducible assumption | rfl) ?_ | refine mrg_out rfl ?_)))⟩
  refine wO_all (f := fun _ : Nat => true) (xs := [0, P + 1]) ?_
  rw [show ([0, P + 1].all fun _ => true) = true from rfl]
  (repeat' get_elem_tactic_trivial)
  refine call_ret hsz rfl ?_
  (repeat' get_elem_tactic_trivial)
  exact ⟨rfl, congrArg D.bl (decide_eq_false (by omega)), rfl⟩
/-! ### rows of moves -/
def OkM (P : Nat) (ms : List Mv) : Prop := (∀ m ∈ ms, m.ok P) ∧ P ≤ 1000000000000000000 ∧ ms.length ≤ 1000
theorem checked_moves_eq (b : Bool) (bs : Mv → Bool) (P : Nat) (ms : List Mv) (W : Wd) (h : OkM P ms) : F_checked_moves [nD P, sqD b (ms.map fun m => mvS (bs m) m)] W = .ret false (.tup (ms.map (mvS false))) W := by
  obtain ⟨hm, hP, hl⟩ := h
  have hsq : okD (sqD b (ms.map fun m => mvS (bs m) m)) = true := by cases b <;> rfl
  have hss : isSeqD (sqD b (ms.map fun m => mvS (bs m) m)) = true := by cases b <;> rfl
  have hen : ∀ {QL : QA} {c : Cfg}, QL (enumD 0 (ms.map fun m => mvS (bs m) m)) c → enK QL [sqD b (ms.map fun m => mvS (bs m) m)] c := fun {QL c} q => by cases b <;> exact en_seq rfl q
  have hit : ∀ {QL : QA} {c : Cfg}, QL (ms.map fun m => mvS (bs m) m) c → itK QL .st (sqD b (ms.map fun m => mvS (bs m) m)) c := fun {QL c} q => by cases b <;> exact it_seq st_nb rfl q
  refine ret_of ?_
  unfold F_checked_moves f_checked_moves
  generalize hz : sqD b (ms.map fun m => mvS (bs m) m) = z at *
  refine wF_run rfl (by repeat (first | with_reducible exact st_0 | with_reducible apply st_d | with_reducible apply st_n)) ?_
  (repeat' get_elem_tactic_trivial)
  refine call_ret (is_sequence_eq z W hsq) rfl ?_
  rw [hss]
  (repeat' get_elem_tactic_trivial)
  refine hen ?_
  refine for_enum (fun m => mvS (bs m) m) ms (fun _ _ c => ∃ x2 x3, shOf x3 = x3 ∧ c = ⟨[some (false, nD P), some (false, z), x2, x3], W⟩) ⟨none, none, rfl, rfl⟩ (fun done m rest c hx hI => ?_) (fun c hI => ?_)
  · obtain ⟨x2, x3, hx3, rfl⟩ := hI
    have e := is_move_eq (bs m) m W P (hm m (by rw [hx]; simp)) hP
    (repeat' get_elem_tactic_trivial)
    refine call_ret e rfl ?_
    (repeat' get_elem_tactic_trivial)
    exact ⟨_, _, rfl, rfl⟩
  · obtain ⟨x2, x3, hx3, rfl⟩ := hI
    (repeat' get_elem_tactic_trivial)
    refine hit ?_
    refine lc_alleq (fun m => mvS (bs m) m) (mvS false) (by omega) (by repeat (first | with_reducible exact wipe_nil | with_reducible apply wipe_cons | with_reducible exact set_0 | with_reducible apply set_s)) (fun m hmm => ?_) ?_
    · have ht : gTuple (mvS (bs m) m) = some (.st, mvS false m) := by cases bs m <;> cases m <;> rfl
      (repeat' get_elem_tactic_trivial)
      refine wO_some ht ?_
      exact ⟨st_nb, rfl, (by (refine mrg_i ?_; repeat (first | exact mrg_nil | refine mrg_in rfl (by first | with_reducible assumption | rfl) ?_ | refine mrg_out rfl ?_)))⟩
    (repeat' get_elem_tactic_trivial)
    exact ⟨rfl, rfl, rfl⟩
theorem led_eq (P : Nat) (ms : List Mv) (p : Nat) (W : Wd) (h : OkM P ms) (hp : p < P) : F_led [.tup (ms.map (mvS false)), nD p] W = .ret false (nD (led ms p)) W := by
  obtain ⟨hm, hP, hl⟩ := h
  refine ret_of ?_
  unfold F_led f_led
  refine wF_run rfl (by repeat (first | with_reducible exact st_0 | with_reducible apply st_d | with_reducible apply st_n)) ?_
  (repeat' get_elem_tactic_trivial)
  refine for_inv (mvS false) ms (fun done rest c => ∃ q x2, q < P ∧ led rest q = led ms p ∧ c = ⟨[some (false, .tup (ms.map (mvS false))), some (false, nD q), x2], W⟩) ⟨p, none, hp, rfl, rfl⟩ (fun done m rest c hx hI => ?_) (fun c hI => ?_)
  · obtain ⟨q, x2, hq, hl, rfl⟩ := hI
    have hmm := hm m (by rw [hx]; simp)
    (repeat' get_elem_tactic_trivial)
    refine call_ret (moved_eq m q P W hmm hP hq) rfl ?_
    (repeat' get_elem_tactic_trivial)
    exact ⟨m.go q, _, go_lt hmm hq, by rw [← hl]; rfl, rfl⟩
  · obtain ⟨q, x2, hq, hl, rfl⟩ := hI
    (repeat' get_elem_tactic_trivial)
    refine ⟨rfl, ?_, rfl⟩
    rw [← hl]
    rfl
theorem law_led_eq (b : Bool) (P : Nat) (ms : List Mv) (p : Nat) (W : Wd) (h : OkM P ms) (hp : p < P) : F__law_led [sqD b (ms.map (mvS false)), nD p] W = .ret false (nD (led ms p)) W := by
  obtain ⟨hm, hP, hl⟩ := h
  have hit : ∀ {QL : QA} {c : Cfg}, QL (ms.map (mvS false)) c → itK QL .st (sqD b (ms.map (mvS false))) c := fun {QL c} q => by cases b <;> exact it_seq st_nb rfl q
  generalize sqD b (ms.map (mvS false)) = z at *
  refine ret_of ?_
  unfold F__law_led f__law_led
  refine wF_run rfl (by repeat (first | with_reducible exact st_0 | with_reducible apply st_d | with_reducible apply st_n)) ?_
  (repeat' get_elem_tactic_trivial)
  refine hit ?_
  refine for_inv (mvS false) ms (fun done rest c => ∃ q x2, q < P ∧ led rest q = led ms p ∧ c = ⟨[some (false, z), some (false, nD q), x2], W⟩) ⟨p, none, hp, rfl, rfl⟩ (fun done m rest c hx hI => ?_) (fun c hI => ?_)
  · obtain ⟨q, x2, hq, hl, rfl⟩ := hI
    have hmm := hm m (by rw [hx]; simp)
    (repeat' get_elem_tactic_trivial)
    refine call_ret (goes_eq m q P W hmm hP hq) rfl ?_
    (repeat' get_elem_tactic_trivial)
    exact ⟨m.go q, _, go_lt hmm hq, by rw [← hl]; rfl, rfl⟩
  · obtain ⟨q, x2, hq, hl, rfl⟩ := hI
    (repeat' get_elem_tactic_trivial)
    refine ⟨rfl, ?_, rfl⟩
    rw [← hl]
    rfl
theorem place_after_eq (b : Bool) (bs : Mv → Bool) (P : Nat) (ms : List Mv) (p : Nat) (W : Wd) (h : OkM P ms) (hp : p < P) : F_place_after [nD P, sqD b (ms.map fun m => mvS (bs m) m), nD p] W = .ret false (nD (led ms p)) W := by
  have e1 := checked_moves_eq b bs P ms W h
  generalize sqD b (ms.map fun m => mvS (bs m) m) = z at *
  have hx : isIxD (P : Int) (nD p) = true := by
    show (decide (0 ≤ (p : Int)) && decide ((p : Int) < (P : Int))) = true
    rw [decide_eq_true (by omega), decide_eq_true (by omega)]
    rfl
  refine ret_of ?_
  unfold F_place_after f_place_after
  refine wF_run rfl (by repeat (first | with_reducible exact st_0 | with_reducible apply st_d | with_reducible apply st_n)) ?_
  (repeat' get_elem_tactic_trivial)
  refine call_ret e1 rfl ?_
  (repeat' get_elem_tactic_trivial)
  refine call_ret (is_index_eq (nD p) P W rfl) rfl ?_
  rw [hx]
  (repeat' get_elem_tactic_trivial)
  refine call_ret (led_eq P ms p W h hp) rfl ?_
  (repeat' get_elem_tactic_trivial)
  exact ⟨rfl, rfl, rfl⟩
/-- a value that is no place -/
theorem place_after_no (b : Bool) (bs : Mv → Bool) (P : Nat) (ms : List Mv) (d : D) (W : Wd) (h : OkM P ms) (h1 : okD d = true) (h2 : isIxD (P : Int) d = false) : F_place_after [nD P, sqD b (ms.map fun m => mvS (bs m) m), d] W = .exc (1, some (.int 0)) W := by
  have e1 := checked_moves_eq b bs P ms W h
  generalize sqD b (ms.map fun m => mvS (bs m) m) = z at *
  refine exc_of ?_
  unfold F_place_after f_place_after
  refine wF_run rfl (by repeat (first | with_reducible exact st_0 | with_reducible apply st_d | with_reducible apply st_n)) ?_
  (repeat' get_elem_tactic_trivial)
  refine call_ret e1 rfl ?_
  (repeat' get_elem_tactic_trivial)
  refine call_ret (is_index_eq d P W h1) rfl ?_
  rw [h2]
  (repeat' get_elem_tactic_trivial)
  exact ⟨rfl, rfl⟩
theorem spread_eq (b : Bool) (bs : Mv → Bool) (P : Nat) (ms : List Mv) (W : Wd) (h : OkM P ms) (hP : P ≤ 1000) : F_spread [nD P, sqD b (ms.map fun m => mvS (bs m) m)] W = .ret false (.tup ((List.range P).map fun p => nD (led ms p))) W := by
  have e1 := checked_moves_eq b bs P ms W h
  generalize sqD b (ms.map fun m => mvS (bs m) m) = z at *
  refine ret_of ?_
  unfold F_spread f_spread
  refine wF_run rfl (by repeat (first | with_reducible exact st_0 | with_reducible apply st_d | with_reducible apply st_n)) ?_
  (repeat' get_elem_tactic_trivial)
  refine call_ret e1 rfl ?_
  (repeat' get_elem_tactic_trivial)
  rw [Int.toNat_natCast, rngD_0]
  refine lc_alleq nD (fun p => nD (led ms p)) (by rw [List.length_range]; omega) (by repeat (first | with_reducible exact wipe_nil | with_reducible apply wipe_cons | with_reducible exact set_0 | with_reducible apply set_s)) (fun p hp => ?_) ?_
  · have hp := List.mem_range.mp hp
    (repeat' get_elem_tactic_trivial)
    refine call_ret (led_eq P ms p W h hp) rfl ?_
    exact ⟨st_nb, rfl, (by (refine mrg_i ?_; repeat (first | exact mrg_nil | refine mrg_in rfl (by first | with_reducible assumption | rfl) ?_ | refine mrg_out rfl ?_)))⟩
  (repeat' get_elem_tactic_trivial)
  exact ⟨rfl, rfl, rfl⟩
end DL.K56
namespace DL.K56
open PySem PySem.Spec PyProof.Rows L2 DL
local macro_rules | `(tactic| get_elem_tactic_trivial) => `(tactic| first
  | ((with_reducible show wpC (tgUnl _ _ _ _) _); first | refine wC_unl rfl rfl ?_)
  | ((with_reducible refine t_M ?_); refine tM_i rfl (by repeat (first | with_reducible exact set_0 | with_reducible apply set_s)) ?_)
  | ((with_reducible show wpS (sApp _ _ _) _); first | refine wS_app rfl ?_)
  | ((with_reducible show appK _ _ _ _ _); first | refine app_st (by first | exact st_nb | exact fr_nb) rfl (by first | omega | (simp <;> omega)) (by repeat (first | with_reducible exact set_0 | with_reducible apply set_s)) ?_ | fail)
  | ((with_reducible show ownK _ _ _); first | refine own_i rfl ?_)
  | ((with_reducible show wpS (sAppPop _ _ _ _) _); first | refine wS_appPop rfl rfl ?_) | fail)
local macro_rules | `(tactic| get_elem_tactic_trivial) => `(tactic| first
  | with_reducible refine wS_drop ?_
  | with_reducible refine wS_retN ?_
  | with_reducible refine wS_brk ?_
  | with_reducible refine wS_cnt ?_
  | ((with_reducible show par3K _ _ _ _ _ _); first | refine par3_st (lt_of_ble rfl) (lt_of_ble rfl) (lt_of_ble rfl) (by repeat (first | with_reducible exact set_0 | with_reducible apply set_s)) (by repeat (first | with_reducible exact set_0 | with_reducible apply set_s)) (by repeat (first | with_reducible exact set_0 | with_reducible apply set_s)) ?_)
  | ((with_reducible show wpC (tgTup _ _ _ _) _); first | refine wC_tup rfl rfl ?_) | fail)
local macro_rules | `(tactic| get_elem_tactic_trivial) => `(tactic| first
  | with_reducible refine wS_asg ?_
  | with_reducible refine wC_cons ?_
  | with_reducible refine wC_nil ?_
  | with_reducible refine wS_putI ?_
  | with_reducible refine wS_swapI ?_
  | with_reducible refine swap_i ?_ | fail)
local macro_rules | `(tactic| get_elem_tactic_trivial) => `(tactic| first
  | with_reducible refine wO_rep_non ?_
  | ((with_reducible show wpO (gRep0 _) _); first | refine wO_rep_bl rfl ?_)
  | with_reducible refine wO_all ?_
  | with_reducible refine wO_any ?_
  | with_reducible refine wS_parK ?_
  | with_reducible refine wS_par3 ?_ | fail)
local macro_rules | `(tactic| get_elem_tactic_trivial) => `(tactic| first
  | ((with_reducible show wpO (gMin2 _ _) _); first | refine wO_min2 rfl rfl ?_)
  | ((with_reducible show wpO (gIx _ _) _); first | refine wO_ix rfl rfl (by first | omega | with_reducible assumption) ?_ | refine wO_ix_last rfl rfl (by first | with_reducible assumption | simp) ?_ | refine wO_ixi rfl rfl (by first | omega | with_reducible assumption) ?_ | refine wO_ixl rfl ?_)
  | ((with_reducible show wpO (gErrIs _ _) _); first | refine wO_errIs rfl ?_)
  | ((with_reducible show wpO (gIsi _ _) _); first | refine wO_isi rfl ?_)
  | ((with_reducible show wpO (gSl _ _ _) _); first | refine wO_slL rfl ?_ | refine wO_slT rfl ?_)
  | ((with_reducible show wpO (gRev _) _); first | refine wO_revL rfl ?_ | refine wO_revT rfl ?_) | fail)
local macro_rules | `(tactic| get_elem_tactic_trivial) => `(tactic| first
  | ((with_reducible show wpO (gLen _) _); first | refine wO_lenm rfl ?_ | refine wO_len rfl ?_)
  | ((with_reducible show wpO (gList _) _); first | refine wO_list rfl ?_)
  | ((with_reducible show wpO (gTuple _) _); first | refine wO_tuple rfl ?_)
  | ((with_reducible show wpO (gInt _) _); first | refine wO_int rfl ?_)
  | ((with_reducible show wpO (gAbs _) _); first | refine wO_abs rfl ?_)
  | ((with_reducible show wpO (gMax2 _ _) _); first | refine wO_max2 rfl rfl ?_) | fail)
local macro_rules | `(tactic| get_elem_tactic_trivial) => `(tactic| first
  | ((with_reducible show wpO (gGe _ _) _); first | refine wO_ge rfl rfl ?_)
  | ((with_reducible show wpO (gEq _ _) _); first | refine wO_eqI rfl rfl ?_ | refine wO_eqB rfl rfl ?_ | refine wO_eqSt (tx_of _).ok (tx_of _).ok (by decide) ?_ | refine wO_eqSf (tx_of _).ok (tx_of _).ok (by decide) ?_ | fail)
  | ((with_reducible show wpO (gNe _ _) _); first | refine wO_neI rfl rfl ?_ | refine wO_neB rfl rfl ?_)
  | with_reducible refine wO_isN ?_
  | with_reducible refine wO_notN ?_
  | ((with_reducible show wpO (gIsB _ _) _); first | refine wO_isB rfl rfl ?_) | fail)
local macro_rules | `(tactic| get_elem_tactic_trivial) => `(tactic| first
  | ((with_reducible show wpO (gMul _ _) _); first | refine wO_mul rfl rfl (mulOk_small (by omega)) ?_ | refine wO_mul rfl rfl (mulOk_r (by omega)) ?_ | refine wO_mul rfl rfl (by with_reducible assumption) ?_ | fail)
  | ((with_reducible show wpO (gFdiv _ _) _); first | refine wO_fdiv rfl rfl (fdivOk_small (by omega)) ?_ | refine wO_fdiv rfl rfl (by first | with_reducible assumption | rfl) ?_ | fail)
  | ((with_reducible show wpO (gMod _ _) _); first | refine wO_mod rfl rfl (by first | omega | with_reducible assumption) ?_ | fail)
  | ((with_reducible show wpO (gLt _ _) _); first | refine wO_lt rfl rfl ?_)
  | ((with_reducible show wpO (gLe _ _) _); first | refine wO_le rfl rfl ?_)
  | ((with_reducible show wpO (gGt _ _) _); first | refine wO_gt rfl rfl ?_) | fail)
local macro_rules | `(tactic| get_elem_tactic_trivial) => `(tactic| first
  | ((with_reducible show lenB _ _); first | refine lenB_i (by first | omega | (simp <;> omega)) ?_ | fail)
  | ((with_reducible show in62 _ _); first | refine in62_i (by first | omega | with_reducible assumption) (by first | omega | with_reducible assumption) ?_ | fail)
  | ((with_reducible show inM _ _); first | refine inM_i (by first | omega | with_reducible assumption) (by first | omega | with_reducible assumption) ?_ | fail)
  | ((with_reducible show onBl _ _ _); first | with_reducible refine onBl_t ?_ | with_reducible refine onBl_f ?_ | with_reducible refine onBl_nt ?_ | with_reducible refine onBl_nf ?_ | with_reducible refine onBl_dt (by first | omega | with_reducible assumption) ?_ | with_reducible refine onBl_df (by first | omega | with_reducible assumption) ?_ | with_reducible refine onBl_ndt (by first | omega | with_reducible assumption) ?_ | with_reducible refine onBl_ndf (by first | omega | with_reducible assumption) ?_ | fail)
  | ((with_reducible show wpO (gAdd _ _) _); first | refine wO_add rfl rfl ?_ | refine wO_catT rfl rfl (by first | omega | (simp <;> omega)) ?_ | refine wO_catL rfl rfl (by first | omega | (simp <;> omega)) ?_ | refine wO_catT rfl rfl ?_ ?_ | refine wO_catL rfl rfl ?_ ?_)
  | ((with_reducible show wpO (gSubI _ _) _); first | refine wO_sub rfl rfl ?_) | fail)
local macro_rules | `(tactic| get_elem_tactic_trivial) => `(tactic| first
  | ((with_reducible show lstK _ _); first | refine lst_i ?_)
  | ((with_reducible show itK _ _ _ _); first | refine it_seq st_nb rfl ?_ | refine it_seq fr_nb rfl ?_)
  | ((with_reducible show enK _ _ _); first | refine en_seq rfl ?_)
  | ((with_reducible show isBl _ _); first | refine isBl_i rfl ?_)
  | ((with_reducible show isInt _ _); first | refine isInt_i rfl ?_)
  | ((with_reducible show isTru _ _); first | refine isTru_i rfl ?_) | fail)
local macro_rules | `(tactic| get_elem_tactic_trivial) => `(tactic| first
  | with_reducible refine wA_zip ?_
  | with_reducible refine wE_lm ?_
  | with_reducible refine wE_dK0 ?_
  | with_reducible refine wE_dT0 ?_
  | with_reducible refine wA_R3 ?_
  | ((with_reducible show zipK _ _ _); first | refine zip_l ?_ | refine zip_t ?_ | refine zip_lt ?_) | fail)
local macro_rules | `(tactic| get_elem_tactic_trivial) => `(tactic| first
  | with_reducible refine wS_nil ?_
  | with_reducible refine wS_for ?_
  | with_reducible refine wA_it ?_
  | with_reducible refine wA_en ?_
  | with_reducible refine wA_R1 ?_
  | with_reducible refine wA_R2 ?_ | fail)
local macro_rules | `(tactic| get_elem_tactic_trivial) => `(tactic| first
  | with_reducible refine wL_el ?_
  | with_reducible refine wL_cl ?_
  | with_reducible refine wV_none ?_
  | with_reducible refine wV_some ?_
  | with_reducible refine And.intro st_nb ?_
  | with_reducible refine And.intro fr_nb ?_ | fail)
local macro_rules | `(tactic| get_elem_tactic_trivial) => `(tactic| first
  | with_reducible refine wE_callK2 ?_
  | with_reducible refine wE_sl ?_
  | with_reducible refine wE_LRg ?_
  | with_reducible refine wE_TRg ?_
  | with_reducible refine wE_lc ?_
  | with_reducible refine wE_lcN ?_ | fail)
local macro_rules | `(tactic| get_elem_tactic_trivial) => `(tactic| first
  | with_reducible refine wE_tru ?_
  | with_reducible refine wE_if ?_
  | with_reducible refine wE_tup ?_
  | with_reducible refine wE_lst ?_
  | with_reducible refine wE_neg ?_
  | with_reducible refine wE_ev3 ?_ | fail)
local macro_rules | `(tactic| get_elem_tactic_trivial) => `(tactic| first
  | ((with_reducible refine p_Mf ?_); refine pM_f rfl (by repeat (first | with_reducible exact set_0 | with_reducible apply set_s)) ?_)
  | with_reducible refine wE_ev1 ?_
  | with_reducible refine wE_ev2 ?_
  | with_reducible refine wE_and ?_
  | with_reducible refine wE_or ?_
  | with_reducible refine wE_not ?_ | fail)
local macro_rules | `(tactic| get_elem_tactic_trivial) => `(tactic| first
  | with_reducible refine wA_nil ?_
  | with_reducible refine wE_evC ?_
  | ((with_reducible refine v_M ?_); refine vM_a rfl (by repeat (first | with_reducible exact set_0 | with_reducible apply set_s)) ?_)
  | ((with_reducible refine b_M ?_); refine bM_i rfl ?_)
  | ((with_reducible refine m_M ?_); first | refine mM_s rfl ?_ | refine mM_o rfl (by repeat (first | with_reducible exact set_0 | with_reducible apply set_s)) ?_)
  | ((with_reducible refine p_Ms ?_); refine pM_s rfl (by repeat (first | with_reducible exact set_0 | with_reducible apply set_s)) ?_) | fail)
local macro_rules | `(tactic| get_elem_tactic_trivial) => `(tactic| first
  | with_reducible refine wS_if ?_
  | with_reducible refine wS_ret ?_
  | with_reducible refine ret_st ?_
  | with_reducible refine ret_fr ?_
  | with_reducible refine wE_call ?_
  | with_reducible refine wA_cons ?_ | fail)
local macro_rules | `(tactic| get_elem_tactic_trivial) => `(tactic| first
  | with_reducible refine wE_errAt ?_
  | ((with_reducible show errK _ _ _ _); first | refine err_i rfl ?_)
  | ((with_reducible show tryK _ _ _ _ _ _); first | refine try_yes rfl rfl (by repeat (first | with_reducible exact set_0 | with_reducible apply set_s)) ?_ | refine try_no rfl ?_)
  | ((with_reducible show try0K _ _ _ _ _); first | refine try0_yes rfl ?_ | refine try0_no rfl ?_)
  | with_reducible refine wS_seq ?_
  | with_reducible refine wS_set ?_ | fail)
local macro_rules | `(tactic| get_elem_tactic_trivial) => `(tactic| first
  | with_reducible refine wS_raise ?_
  | with_reducible refine raise_st ?_
  | with_reducible refine raise_fr ?_
  | with_reducible refine wS_try ?_
  | with_reducible refine wS_try0 ?_
  | with_reducible refine wE_ref ?_ | fail)
/-! ### inverses, walked -/
def prD (o : Nat) (x : Int) : D := .tup [nD o, .int x]
theorem inverse_eq (a n : Nat) (W : Wd) (h0 : 0 < n) (hn : n ≤ 1000000000000000000) : F_inverse [nD a, nD n] W = .ret false (nD (invN a n)) W := by
  refine ret_of ?_
  unfold F_inverse f_inverse
  refine wF_run rfl (by repeat (first | with_reducible exact st_0 | with_reducible apply st_d | with_reducible apply st_n)) ?_
  (repeat' get_elem_tactic_trivial)
  refine wS_while (fun c => ∃ (o t : Nat) (x y : Int) (f : Nat) (x4 : Option (Bool × D)), o ≤ n ∧ t < f ∧ t ≤ n ∧ eucl f o t x y = eucl (n + 2) n (a % n) 0 1 ∧ c = ⟨[some (false, nD a), some (false, nD n), some (false, prD o x), some (false, prD t y), x4], W⟩) (fun c : Cfg => match c.r[3]? with | some (some (_, D.tup [D.int i, _])) => i.toNat | _ => 0)
    ⟨n, a % n, 0, 1, n + 2, none, Nat.le_refl _, by have := Nat.mod_lt a h0; omega, by have := Nat.mod_lt a h0; omega, rfl, by unfold prD nD; rw [Int.natCast_emod]⟩ (by show ((a : Int) % (n : Int)).toNat < 1000000000000000000000; rw [← Int.natCast_emod, Int.toNat_natCast]; have := Nat.mod_lt a h0; omega) (fun c hI => ?_)
  obtain ⟨o, t, x, y, f, x4, ho, htf, htn, he, rfl⟩ := hI
  unfold prD
  (repeat' get_elem_tactic_trivial)
  refine onBl_d (fun g => ?_) (fun g => ?_)
  · have ht : 0 < t := by omega
    (repeat' get_elem_tactic_trivial)
    have i1 : (o : Int) / (t : Int) = ((o / t : Nat) : Int) := (Int.natCast_ediv o t).symm
    have hd : o / t ≤ o := Nat.div_le_self _ _
    have hml : o % t < t := Nat.mod_lt _ ht
    have i2 : (o : Int) - ((o / t : Nat) : Int) * (t : Int) = ((o % t : Nat) : Int) := by
      have := Nat.div_add_mod o t
      rw [← Int.natCast_mul, Nat.mul_comm (o / t)]
      omega
    obtain ⟨q, hq⟩ : ∃ q, q = o / t := ⟨_, rfl⟩
    rw [← hq] at i1 i2 hd
    rw [i1]
    (repeat' get_elem_tactic_trivial)
    rw [i2]
    obtain ⟨f, rfl⟩ : ∃ f', f = f' + 1 := ⟨f - 1, by omega⟩
    refine ⟨⟨t, o % t, y, x - (q : Int) * y, f, _, htn, by omega, by omega, ?_, rfl⟩, ?_⟩
    · rw [← he, hq]
      conv => rhs; unfold eucl
      rw [if_neg (by omega)]
    · show ((o % t : Nat) : Int).toNat < ((t : Nat) : Int).toNat
      rw [Int.toNat_natCast, Int.toNat_natCast]
      exact hml
  · have ht : t = 0 := by omega
    (repeat' get_elem_tactic_trivial)
    refine ⟨rfl, congrArg D.int ?_, rfl⟩
    unfold invN
    rw [← he]
    obtain ⟨f, rfl⟩ : ∃ f', f = f' + 1 := ⟨f - 1, by omega⟩
    unfold eucl
    rw [if_pos ht, Int.toNat_of_nonneg (Int.emod_nonneg _ (by omega))]
theorem undone_eq (m : Mv) (P : Nat) (W : Wd) (h : m.ok P) (hP : P ≤ 1000000000000000000) : F_undone [mvS false m] W = .ret false (mvS false (un m)) W := by
  have h0 := h.1
  have h1 := h.2
  refine ret_of ?_
  unfold F_undone f_undone
  cases m with
  | swap t u w v =>
    dsimp only [mvS, sqD, un]; refine wF_run rfl (by repeat (first | with_reducible exact st_0 | with_reducible apply st_d | with_reducible apply st_n)) ?_; (repeat' get_elem_tactic_trivial); exact ⟨rfl, rfl, rfl⟩
  | turn t n a =>
    dsimp only [Mv.at_, Mv.sz] at h0
    dsimp only [mvS, sqD, un]
    refine wF_run rfl (by repeat (first | with_reducible exact st_0 | with_reducible apply st_d | with_reducible apply st_n)) ?_
    (repeat' get_elem_tactic_trivial)
    refine ⟨rfl, ?_, rfl⟩
    have e : -(a : Int) % (n : Int) = (((n - a % n) % n : Nat) : Int) := by
      have h2 := Nat.mod_lt a h1.1
      rw [Int.natCast_emod, Int.natCast_sub (Nat.le_of_lt h2), Int.natCast_emod]
      refine Int.emod_eq_emod_iff_emod_sub_eq_zero.mpr (Int.emod_eq_zero_of_dvd ⟨-((a / n : Nat) : Int) - 1, ?_⟩)
      have h3 := Nat.div_add_mod a n
      rw [Int.mul_sub, Int.mul_neg, ← Int.natCast_mul, ← Int.natCast_emod]
      omega
    rw [e]
    rfl
  | rev t n =>
    dsimp only [mvS, sqD, un]; refine wF_run rfl (by repeat (first | with_reducible exact st_0 | with_reducible apply st_d | with_reducible apply st_n)) ?_; (repeat' get_elem_tactic_trivial); exact ⟨rfl, rfl, rfl⟩
  | deal t r c =>
    dsimp only [mvS, sqD, un]; refine wF_run rfl (by repeat (first | with_reducible exact st_0 | with_reducible apply st_d | with_reducible apply st_n)) ?_; (repeat' get_elem_tactic_trivial); exact ⟨rfl, rfl, rfl⟩
  | str t n a =>
    dsimp only [Mv.at_, Mv.sz] at h0
    have e := inverse_eq a n W (by omega) (by omega)
    dsimp only [mvS, sqD, un]; refine wF_run rfl (by repeat (first | with_reducible exact st_0 | with_reducible apply st_d | with_reducible apply st_n)) ?_; (repeat' get_elem_tactic_trivial)
    refine call_ret e rfl ?_
    (repeat' get_elem_tactic_trivial)
    exact ⟨rfl, rfl, rfl⟩
theorem undoing_eq (b : Bool) (bs : Mv → Bool) (P : Nat) (ms : List Mv) (W : Wd) (h : OkM P ms) : F_undoing [nD P, sqD b (ms.map fun m => mvS (bs m) m)] W = .ret false (.tup ((ms.reverse.map un).map (mvS false))) W := by
  have e1 := checked_moves_eq b bs P ms W h
  obtain ⟨hm, hP, hl⟩ := h
  generalize sqD b (ms.map fun m => mvS (bs m) m) = z at *
  refine ret_of ?_
  unfold F_undoing f_undoing
  refine wF_run rfl (by repeat (first | with_reducible exact st_0 | with_reducible apply st_d | with_reducible apply st_n)) ?_
  (repeat' get_elem_tactic_trivial)
  refine call_ret e1 rfl ?_
  (repeat' get_elem_tactic_trivial)
  rw [← List.map_reverse]
  refine lc_alleq (mvS false) (fun m => mvS false (un m)) (by rw [List.length_reverse]; omega) (by repeat (first | with_reducible exact wipe_nil | with_reducible apply wipe_cons | with_reducible exact set_0 | with_reducible apply set_s)) (fun m hmm => ?_) ?_
  · (repeat' get_elem_tactic_trivial)
    refine call_ret (undone_eq m P W (hm m (List.mem_reverse.mp hmm)) hP) rfl ?_
    exact ⟨st_nb, rfl, (by (refine mrg_i ?_; repeat (first | exact mrg_nil | refine mrg_in rfl (by first | with_reducible assumption | rfl) ?_ | refine mrg_out rfl ?_)))⟩
  (repeat' get_elem_tactic_trivial)
  refine ⟨rfl, ?_, rfl⟩
  rw [List.map_map]
  rfl
end DL.K56
namespace DL.K56
open PySem PySem.Spec PyProof.Rows L2 DL
local macro_rules | `(tactic| get_elem_tactic_trivial) => `(tactic| first
  | ((with_reducible show wpC (tgUnl _ _ _ _) _); first | refine wC_unl rfl rfl ?_)
  | ((with_reducible refine t_M ?_); refine tM_i rfl (by repeat (first | with_reducible exact set_0 | with_reducible apply set_s)) ?_)
  | ((with_reducible show wpS (sApp _ _ _) _); first | refine wS_app rfl ?_)
  | ((with_reducible show appK _ _ _ _ _); first | refine app_st (by first | exact st_nb | exact fr_nb) rfl (by first | omega | (simp <;> omega)) (by repeat (first | with_reducible exact set_0 | with_reducible apply set_s)) ?_ | fail)
  | ((with_reducible show ownK _ _ _); first | refine own_i rfl ?_)
  | ((with_reducible show wpS (sAppPop _ _ _ _) _); first | refine wS_appPop rfl rfl ?_) | fail)
local macro_rules | `(tactic| get_elem_tactic_trivial) => `(tactic| first
  | with_reducible refine wS_drop ?_
  | with_reducible refine wS_retN ?_
  | with_reducible refine wS_brk ?_
  | with_reducible refine wS_cnt ?_
  | ((with_reducible show par3K _ _ _ _ _ _); first | refine par3_st (lt_of_ble rfl) (lt_of_ble rfl) (lt_of_ble rfl) (by repeat (first | with_reducible exact set_0 | with_reducible apply set_s)) (by repeat (first | with_reducible exact set_0 | with_reducible apply set_s)) (by repeat (first | with_reducible exact set_0 | with_reducible apply set_s)) ?_)
  | ((with_reducible show wpC (tgTup _ _ _ _) _); first | refine wC_tup rfl rfl ?_) | fail)
local macro_rules | `(tactic| get_elem_tactic_trivial) => `(tactic| first
  | with_reducible refine wS_asg ?_
  | with_reducible refine wC_cons ?_
  | with_reducible refine wC_nil ?_
  | with_reducible refine wS_putI ?_
  | with_reducible refine wS_swapI ?_
  | with_reducible refine swap_i ?_ | fail)
local macro_rules | `(tactic| get_elem_tactic_trivial) => `(tactic| first
  | with_reducible refine wO_rep_non ?_
  | ((with_reducible show wpO (gRep0 _) _); first | refine wO_rep_bl rfl ?_)
  | with_reducible refine wO_all ?_
  | with_reducible refine wO_any ?_
  | with_reducible refine wS_parK ?_
  | with_reducible refine wS_par3 ?_ | fail)
local macro_rules | `(tactic| get_elem_tactic_trivial) => `(tactic| first
  | ((with_reducible show wpO (gMin2 _ _) _); first | refine wO_min2 rfl rfl ?_)
  | ((with_reducible show wpO (gIx _ _) _); first | refine wO_ix rfl rfl (by first | omega | with_reducible assumption) ?_ | refine wO_ix_last rfl rfl (by first | with_reducible assumption | simp) ?_ | refine wO_ixi rfl rfl (by first | omega | with_reducible assumption) ?_ | refine wO_ixl rfl ?_)
  | ((with_reducible show wpO (gErrIs _ _) _); first | refine wO_errIs rfl ?_)
  | ((with_reducible show wpO (gIsi _ _) _); first | refine wO_isi rfl ?_)
  | ((with_reducible show wpO (gSl _ _ _) _); first | refine wO_slL rfl ?_ | refine wO_slT rfl ?_)
  | ((with_reducible show wpO (gRev _) _); first | refine wO_revL rfl ?_ | refine wO_revT rfl ?_) | fail)
local macro_rules | `(tactic| get_elem_tactic_trivial) => `(tactic| first
  | ((with_reducible show wpO (gLen _) _); first | refine wO_lenm rfl ?_ | refine wO_len rfl ?_)
  | ((with_reducible show wpO (gList _) _); first | refine wO_list rfl ?_)
  | ((with_reducible show wpO (gTuple _) _); first | refine wO_tuple rfl ?_)
  | ((with_reducible show wpO (gInt _) _); first | refine wO_int rfl ?_)
  | ((with_reducible show wpO (gAbs _) _); first | refine wO_abs rfl ?_)
  | ((with_reducible show wpO (gMax2 _ _) _); first | refine wO_max2 rfl rfl ?_) | fail)
local macro_rules | `(tactic| get_elem_tactic_trivial) => `(tactic| first
  | ((with_reducible show wpO (gGe _ _) _); first | refine wO_ge rfl rfl ?_)
  | ((with_reducible show wpO (gEq _ _) _); first | refine wO_eqI rfl rfl ?_ | refine wO_eqB rfl rfl ?_ | refine wO_eqSt (tx_of _).ok (tx_of _).ok (by decide) ?_ | refine wO_eqSf (tx_of _).ok (tx_of _).ok (by decide) ?_ | fail)
  | ((with_reducible show wpO (gNe _ _) _); first | refine wO_neI rfl rfl ?_ | refine wO_neB rfl rfl ?_)
  | with_reducible refine wO_isN ?_
  | with_reducible refine wO_notN ?_
  | ((with_reducible show wpO (gIsB _ _) _); first | refine wO_isB rfl rfl ?_) | fail)
local macro_rules | `(tactic| get_elem_tactic_trivial) => `(tactic| first
  | ((with_reducible show wpO (gMul _ _) _); first | refine wO_mul rfl rfl (mulOk_small (by omega)) ?_ | refine wO_mul rfl rfl (mulOk_r (by omega)) ?_ | refine wO_mul rfl rfl (by with_reducible assumption) ?_ | fail)
  | ((with_reducible show wpO (gFdiv _ _) _); first | refine wO_fdiv rfl rfl (fdivOk_small (by omega)) ?_ | refine wO_fdiv rfl rfl (by first | with_reducible assumption | rfl) ?_ | fail)
  | ((with_reducible show wpO (gMod _ _) _); first | refine wO_mod rfl rfl (by first | omega | with_reducible assumption) ?_ | fail)
  | ((with_reducible show wpO (gLt _ _) _); first | refine wO_lt rfl rfl ?_)
  | ((with_reducible show wpO (gLe _ _) _); first | refine wO_le rfl rfl ?_)
  | ((with_reducible show wpO (gGt _ _) _); first | refine wO_gt rfl rfl ?_) | fail)
local macro_rules | `(tactic| get_elem_tactic_trivial) => `(tactic| first
  | ((with_reducible show lenB _ _); first | refine lenB_i (by first | omega | (simp <;> omega)) ?_ | fail)
  | ((with_reducible show in62 _ _); first | refine in62_i (by first | omega | with_reducible assumption) (by first | omega | with_reducible assumption) ?_ | fail)
  | ((with_reducible show inM _ _); first | refine inM_i (by first | omega | with_reducible assumption) (by first | omega | with_reducible assumption) ?_ | fail)
  | ((with_reducible show onBl _ _ _); first | with_reducible refine onBl_t ?_ | with_reducible refine onBl_f ?_ | with_reducible refine onBl_nt ?_ | with_reducible refine onBl_nf ?_ | with_reducible refine onBl_dt (by first | omega | with_reducible assumption) ?_ | with_reducible refine onBl_df (by first | omega | with_reducible assumption) ?_ | with_reducible refine onBl_ndt (by first | omega | with_reducible assumption) ?_ | with_reducible refine onBl_ndf (by first | omega | with_reducible assumption) ?_ | fail)
  | ((with_reducible show wpO (gAdd _ _) _); first | refine wO_add rfl rfl ?_ | refine wO_catT rfl rfl (by first | omega | (simp <;> omega)) ?_ | refine wO_catL rfl rfl (by first | omega | (simp <;> omega)) ?_ | refine wO_catT rfl rfl ?_ ?_ | refine wO_catL rfl rfl ?_ ?_)
  | ((with_reducible show wpO (gSubI _ _) _); first | refine wO_sub rfl rfl ?_) | fail)
local macro_rules | `(tactic| get_elem_tactic_trivial) => `(tactic| first
  | ((with_reducible show lstK _ _); first | refine lst_i ?_)
  | ((with_reducible show itK _ _ _ _); first | refine it_seq st_nb rfl ?_ | refine it_seq fr_nb rfl ?_)
  | ((with_reducible show enK _ _ _); first | refine en_seq rfl ?_)
  | ((with_reducible show isBl _ _); first | refine isBl_i rfl ?_)
  | ((with_reducible show isInt _ _); first | refine isInt_i rfl ?_)
  | ((with_reducible show isTru _ _); first | refine isTru_i rfl ?_) | fail)
local macro_rules | `(tactic| get_elem_tactic_trivial) => `(tactic| first
  | with_reducible refine wA_zip ?_
  | with_reducible refine wE_lm ?_
  | with_reducible refine wE_dK0 ?_
  | with_reducible refine wE_dT0 ?_
  | with_reducible refine wA_R3 ?_
  | ((with_reducible show zipK _ _ _); first | refine zip_l ?_ | refine zip_t ?_ | refine zip_lt ?_) | fail)
local macro_rules | `(tactic| get_elem_tactic_trivial) => `(tactic| first
  | with_reducible refine wS_nil ?_
  | with_reducible refine wS_for ?_
  | with_reducible refine wA_it ?_
  | with_reducible refine wA_en ?_
  | with_reducible refine wA_R1 ?_
  | with_reducible refine wA_R2 ?_ | fail)
local macro_rules | `(tactic| get_elem_tactic_trivial) => `(tactic| first
  | with_reducible refine wL_el ?_
  | with_reducible refine wL_cl ?_
  | with_reducible refine wV_none ?_
  | with_reducible refine wV_some ?_
  | with_reducible refine And.intro st_nb ?_
  | with_reducible refine And.intro fr_nb ?_ | fail)
local macro_rules | `(tactic| get_elem_tactic_trivial) => `(tactic| first
  | with_reducible refine wE_callK2 ?_
  | with_reducible refine wE_sl ?_
  | with_reducible refine wE_LRg ?_
  | with_reducible refine wE_TRg ?_
  | with_reducible refine wE_lc ?_
  | with_reducible refine wE_lcN ?_ | fail)
local macro_rules | `(tactic| get_elem_tactic_trivial) => `(tactic| first
  | with_reducible refine wE_tru ?_
  | with_reducible refine wE_if ?_
  | with_reducible refine wE_tup ?_
  | with_reducible refine wE_lst ?_
  | with_reducible refine wE_neg ?_
  | with_reducible refine wE_ev3 ?_ | fail)
local macro_rules | `(tactic| get_elem_tactic_trivial) => `(tactic| first
  | ((with_reducible refine p_Mf ?_); refine pM_f rfl (by repeat (first | with_reducible exact set_0 | with_reducible apply set_s)) ?_)
  | with_reducible refine wE_ev1 ?_
  | with_reducible refine wE_ev2 ?_
  | with_reducible refine wE_and ?_
  | with_reducible refine wE_or ?_
  | with_reducible refine wE_not ?_ | fail)
local macro_rules | `(tactic| get_elem_tactic_trivial) => `(tactic| first
  | with_reducible refine wA_nil ?_
  | with_reducible refine wE_evC ?_
  | ((with_reducible refine v_M ?_); refine vM_a rfl (by repeat (first | with_reducible exact set_0 | with_reducible apply set_s)) ?_)
  | ((with_reducible refine b_M ?_); refine bM_i rfl ?_)
  | ((with_reducible refine m_M ?_); first | refine mM_s rfl ?_ | refine mM_o rfl (by repeat (first | with_reducible exact set_0 | with_reducible apply set_s)) ?_)
  | ((with_reducible refine p_Ms ?_); refine pM_s rfl (by repeat (first | with_reducible exact set_0 | with_reducible apply set_s)) ?_) | fail)
local macro_rules | `(tactic| get_elem_tactic_trivial) => `(tactic| first
  | with_reducible refine wS_if ?_
  | with_reducible refine wS_ret ?_
  | with_reducible refine ret_st ?_
  | with_reducible refine ret_fr ?_
  | with_reducible refine wE_call ?_
  | with_reducible refine wA_cons ?_ | fail)
local macro_rules | `(tactic| get_elem_tactic_trivial) => `(tactic| first
  | with_reducible refine wE_errAt ?_
  | ((with_reducible show errK _ _ _ _); first | refine err_i rfl ?_)
  | ((with_reducible show tryK _ _ _ _ _ _); first | refine try_yes rfl rfl (by repeat (first | with_reducible exact set_0 | with_reducible apply set_s)) ?_ | refine try_no rfl ?_)
  | ((with_reducible show try0K _ _ _ _ _); first | refine try0_yes rfl ?_ | refine try0_no rfl ?_)
  | with_reducible refine wS_seq ?_
  | with_reducible refine wS_set ?_ | fail)
local macro_rules | `(tactic| get_elem_tactic_trivial) => `(tactic| first
  | with_reducible refine wS_raise ?_
  | with_reducible refine raise_st ?_
  | with_reducible refine raise_fr ?_
  | with_reducible refine wS_try ?_
  | with_reducible refine wS_try0 ?_
  | with_reducible refine wE_ref ?_ | fail)
/-! ### whether one move undoes another, as the law asks -/
theorem ne_cl (cs : List Cl) : gNe (.tup (cs.map clD)) (.tup (cs.map clD)) = some (.st, .bl false) := by
  have := gNe_of (eqv_tup eqv_cl) (by omega) cs cs
  rw [decide_eq_true rfl] at this
  exact this
theorem eq_cl (cs : List Cl) : gEq (.tup (cs.map clD)) (.tup (cs.map clD)) = some (.st, .bl true) := by
  have := gEq_of (eqv_tup eqv_cl) (by omega) cs cs
  rw [decide_eq_true rfl] at this
  exact this
theorem ne_nil : gNe (.lst []) (.lst []) = some (.st, .bl false) := gNe_nilS (ds := []) (k := 0) (fun d hd => absurd hd List.not_mem_nil) (by omega)
theorem cut_2 (a b : D) (ds : List D) : cutD (a :: b :: ds) none (some 2) = [a, b] := by
  have := cut_0n' (id : D → D) (a :: b :: ds) 2 (by simp)
  rw [List.map_id] at this
  rw [show ((2 : Nat) : Int) = 2 from rfl] at this
  rw [this, List.map_id]
  rfl
theorem cut_2e (a b : D) (ds : List D) : cutD (a :: b :: ds) (some 2) none = ds := by
  have := cut_n0' (id : D → D) (a :: b :: ds) 2 (by simp)
  rw [List.map_id] at this
  rw [show ((2 : Nat) : Int) = 2 from rfl] at this
  rw [this, List.map_id]
  rfl
theorem law_undone_eq (m m' : Mv) (P : Nat) (W : Wd) (h : m.ok P) (hP : P ≤ 1000000000000000000) (u : Und m m') : F__law_undone [mvS false m, mvS false m'] W = .ret false (.bl true) W := by
  have h0 := h.1
  have h1 := h.2
  have h' := und_ok h u
  have h2 := h'.2
  refine ret_of ?_
  unfold F__law_undone f__law_undone
  cases m <;> cases m' <;> first | exact u.elim | skip
  · rename_i t u0 w v t' u' w' v'
    obtain ⟨rfl, rfl, rfl, rfl⟩ := u
    dsimp only [Mv.at_, Mv.sz] at h0
    dsimp only at h1 h2
    dsimp only [mvS, sqD]
    refine wF_run rfl (by repeat (first | with_reducible exact st_0 | with_reducible apply st_d | with_reducible apply st_n)) ?_
    (repeat' get_elem_tactic_trivial)
    (try (refine onBl_ndf (by first | rfl | simp) ?_; (repeat' get_elem_tactic_trivial)))
    rw [cut_2]
    (try rw [cut_2])
    refine wO_some (ne_cl [.inl .swap, .inr (t' : Int)]) ?_
    (repeat' get_elem_tactic_trivial)
    rw [cut_1]
    refine lc_eq (xs := [t', u', w', v']) nD (fun _ => false) nD (by simp) (by repeat (first | with_reducible exact wipe_nil | with_reducible apply wipe_cons | with_reducible exact set_0 | with_reducible apply set_s)) (fun x hx => ?_) ?_
    · (repeat' get_elem_tactic_trivial)
      exact ⟨rfl, fun _ => (by (refine mrg_i ?_; repeat (first | exact mrg_nil | refine mrg_in rfl (by first | with_reducible assumption | rfl) ?_ | refine mrg_out rfl ?_))), fun z => by cases z⟩
    (repeat' get_elem_tactic_trivial)
    refine wO_some ne_nil ?_
    (repeat' get_elem_tactic_trivial)
    rw [cut_2e]
    refine wO_some (eq_cl [.inr (u' : Int), .inr (w' : Int), .inr (v' : Int)]) ?_
    (repeat' get_elem_tactic_trivial)
    exact ⟨rfl, rfl, rfl⟩
  · rename_i t n a t' n' b
    obtain ⟨rfl, rfl, hb, hab⟩ := u
    dsimp only [Mv.at_, Mv.sz] at h0
    dsimp only at h1 h2
    dsimp only [mvS, sqD]
    refine wF_run rfl (by repeat (first | with_reducible exact st_0 | with_reducible apply st_d | with_reducible apply st_n)) ?_
    (repeat' get_elem_tactic_trivial)
    (try (refine onBl_ndf (by first | rfl | simp) ?_; (repeat' get_elem_tactic_trivial)))
    rw [cut_2]
    (try rw [cut_2])
    refine wO_some (ne_cl [.inl .turn, .inr (t' : Int)]) ?_
    (repeat' get_elem_tactic_trivial)
    rw [cut_1]
    refine lc_eq (xs := [t', n', b]) nD (fun _ => false) nD (by simp) (by repeat (first | with_reducible exact wipe_nil | with_reducible apply wipe_cons | with_reducible exact set_0 | with_reducible apply set_s)) (fun x hx => ?_) ?_
    · (repeat' get_elem_tactic_trivial)
      exact ⟨rfl, fun _ => (by (refine mrg_i ?_; repeat (first | exact mrg_nil | refine mrg_in rfl (by first | with_reducible assumption | rfl) ?_ | refine mrg_out rfl ?_))), fun z => by cases z⟩
    (repeat' get_elem_tactic_trivial)
    refine wO_some ne_nil ?_
    (repeat' get_elem_tactic_trivial)
    refine ⟨rfl, congrArg D.bl (decide_eq_true ?_), rfl⟩
    rw [← Int.natCast_add, ← Int.natCast_emod, hab]
    rfl
  · rename_i t n t' n'
    obtain ⟨rfl, rfl⟩ := u
    dsimp only [Mv.at_, Mv.sz] at h0
    dsimp only at h1 h2
    dsimp only [mvS, sqD]
    refine wF_run rfl (by repeat (first | with_reducible exact st_0 | with_reducible apply st_d | with_reducible apply st_n)) ?_
    (repeat' get_elem_tactic_trivial)
    (try (refine onBl_ndf (by first | rfl | simp) ?_; (repeat' get_elem_tactic_trivial)))
    rw [cut_2]
    (try rw [cut_2])
    refine wO_some (ne_cl [.inl .rev, .inr (t' : Int)]) ?_
    (repeat' get_elem_tactic_trivial)
    rw [cut_1]
    refine lc_eq (xs := [t', n']) nD (fun _ => false) nD (by simp) (by repeat (first | with_reducible exact wipe_nil | with_reducible apply wipe_cons | with_reducible exact set_0 | with_reducible apply set_s)) (fun x hx => ?_) ?_
    · (repeat' get_elem_tactic_trivial)
      exact ⟨rfl, fun _ => (by (refine mrg_i ?_; repeat (first | exact mrg_nil | refine mrg_in rfl (by first | with_reducible assumption | rfl) ?_ | refine mrg_out rfl ?_))), fun z => by cases z⟩
    (repeat' get_elem_tactic_trivial)
    refine wO_some ne_nil ?_
    (repeat' get_elem_tactic_trivial)
    refine wO_some (eq_cl [.inl .rev, .inr (t' : Int), .inr (n' : Int)]) ?_
    (repeat' get_elem_tactic_trivial)
    exact ⟨rfl, rfl, rfl⟩
  · rename_i t r c t' r' c'
    obtain ⟨rfl, rfl, rfl⟩ := u
    dsimp only [Mv.at_, Mv.sz] at h0
    dsimp only at h1 h2
    dsimp only [mvS, sqD]
    refine wF_run rfl (by repeat (first | with_reducible exact st_0 | with_reducible apply st_d | with_reducible apply st_n)) ?_
    (repeat' get_elem_tactic_trivial)
    (try (refine onBl_ndf (by first | rfl | simp) ?_; (repeat' get_elem_tactic_trivial)))
    rw [cut_2]
    (try rw [cut_2])
    refine wO_some (ne_cl [.inl .deal, .inr (t' : Int)]) ?_
    (repeat' get_elem_tactic_trivial)
    rw [cut_1]
    refine lc_eq (xs := [t', r', c']) nD (fun _ => false) nD (by simp) (by repeat (first | with_reducible exact wipe_nil | with_reducible apply wipe_cons | with_reducible exact set_0 | with_reducible apply set_s)) (fun x hx => ?_) ?_
    · (repeat' get_elem_tactic_trivial)
      exact ⟨rfl, fun _ => (by (refine mrg_i ?_; repeat (first | exact mrg_nil | refine mrg_in rfl (by first | with_reducible assumption | rfl) ?_ | refine mrg_out rfl ?_))), fun z => by cases z⟩
    (repeat' get_elem_tactic_trivial)
    refine wO_some ne_nil ?_
    (repeat' get_elem_tactic_trivial)
    rw [cut_2e]
    refine wO_some (eq_cl [.inr (r' : Int), .inr (c' : Int)]) ?_
    (repeat' get_elem_tactic_trivial)
    exact ⟨rfl, rfl, rfl⟩
  · rename_i t n a t' n' b
    obtain ⟨rfl, rfl, hb, hab⟩ := u
    dsimp only [Mv.at_, Mv.sz] at h0
    dsimp only at h1 h2
    dsimp only [mvS, sqD]
    refine wF_run rfl (by repeat (first | with_reducible exact st_0 | with_reducible apply st_d | with_reducible apply st_n)) ?_
    (repeat' get_elem_tactic_trivial)
    (try (refine onBl_ndf (by first | rfl | simp) ?_; (repeat' get_elem_tactic_trivial)))
    rw [cut_2]
    (try rw [cut_2])
    refine wO_some (ne_cl [.inl .str, .inr (t' : Int)]) ?_
    (repeat' get_elem_tactic_trivial)
    rw [cut_1]
    refine lc_eq (xs := [t', n', b]) nD (fun _ => false) nD (by simp) (by repeat (first | with_reducible exact wipe_nil | with_reducible apply wipe_cons | with_reducible exact set_0 | with_reducible apply set_s)) (fun x hx => ?_) ?_
    · (repeat' get_elem_tactic_trivial)
      exact ⟨rfl, fun _ => (by (refine mrg_i ?_; repeat (first | exact mrg_nil | refine mrg_in rfl (by first | with_reducible assumption | rfl) ?_ | refine mrg_out rfl ?_))), fun z => by cases z⟩
    (repeat' get_elem_tactic_trivial)
    refine wO_some ne_nil ?_
    (repeat' get_elem_tactic_trivial)
    refine ⟨rfl, congrArg D.bl (decide_eq_true ?_), rfl⟩
    refine Int.emod_eq_emod_iff_emod_sub_eq_zero.mp ?_
    have : ((a * b % n' : Nat) : Int) = ((1 % n' : Nat) : Int) := by rw [hab]
    rw [Int.natCast_emod, Int.natCast_emod, Int.natCast_mul] at this
    exact this
end DL.K56
namespace DL.K56
open PySem PySem.Spec PyProof.Rows L2 DL
local macro_rules | `(tactic| get_elem_tactic_trivial) => `(tactic| first
  | ((with_reducible show wpC (tgUnl _ _ _ _) _); first | refine wC_unl rfl rfl ?_)
  | ((with_reducible refine t_M ?_); refine tM_i rfl (by repeat (first | with_reducible exact set_0 | with_reducible apply set_s)) ?_)
  | ((with_reducible show wpS (sApp _ _ _) _); first | refine wS_app rfl ?_)
  | ((with_reducible show appK _ _ _ _ _); first | refine app_st (by first | exact st_nb | exact fr_nb) rfl (by first | omega | (simp <;> omega)) (by repeat (first | with_reducible exact set_0 | with_reducible apply set_s)) ?_ | fail)
  | ((with_reducible show ownK _ _ _); first | refine own_i rfl ?_)
  | ((with_reducible show wpS (sAppPop _ _ _ _) _); first | refine wS_appPop rfl rfl ?_) | fail)
local macro_rules | `(tactic| get_elem_tactic_trivial) => `(tactic| first
  | with_reducible refine wS_drop ?_
  | with_reducible refine wS_retN ?_
  | with_reducible refine wS_brk ?_
  | with_reducible refine wS_cnt ?_
  | ((with_reducible show par3K _ _ _ _ _ _); first | refine par3_st (lt_of_ble rfl) (lt_of_ble rfl) (lt_of_ble rfl) (by repeat (first | with_reducible exact set_0 | with_reducible apply set_s)) (by repeat (first | with_reducible exact set_0 | with_reducible apply set_s)) (by repeat (first | with_reducible exact set_0 | with_reducible apply set_s)) ?_)
  | ((with_reducible show wpC (tgTup _ _ _ _) _); first | refine wC_tup rfl rfl ?_) | fail)
local macro_rules | `(tactic| get_elem_tactic_trivial) => `(tactic| first
  | with_reducible refine wS_asg ?_
  | with_reducible refine wC_cons ?_
  | with_reducible refine wC_nil ?_
  | with_reducible refine wS_putI ?_
  | with_reducible refine wS_swapI ?_
  | with_reducible refine swap_i ?_ | fail)
local macro_rules | `(tactic| get_elem_tactic_trivial) => `(tactic| first
  | with_reducible refine wO_rep_non ?_
  | ((with_reducible show wpO (gRep0 _) _); first | refine wO_rep_bl rfl ?_)
  | with_reducible refine wO_all ?_
  | with_reducible refine wO_any ?_
  | with_reducible refine wS_parK ?_
  | with_reducible refine wS_par3 ?_ | fail)
local macro_rules | `(tactic| get_elem_tactic_trivial) => `(tactic| first
  | ((with_reducible show wpO (gMin2 _ _) _); first | refine wO_min2 rfl rfl ?_)
  | ((with_reducible show wpO (gIx _ _) _); first | refine wO_ix rfl rfl (by first | omega | with_reducible assumption) ?_ | refine wO_ix_last rfl rfl (by first | with_reducible assumption | simp) ?_ | refine wO_ixi rfl rfl (by first | omega | with_reducible assumption) ?_ | refine wO_ixl rfl ?_)
  | ((with_reducible show wpO (gErrIs _ _) _); first | refine wO_errIs rfl ?_)
  | ((with_reducible show wpO (gIsi _ _) _); first | refine wO_isi rfl ?_)
  | ((with_reducible show wpO (gSl _ _ _) _); first | refine wO_slL rfl ?_ | refine wO_slT rfl ?_)
  | ((with_reducible show wpO (gRev _) _); first | refine wO_revL rfl ?_ | refine wO_revT rfl ?_) | fail)
local macro_rules | `(tactic| get_elem_tactic_trivial) => `(tactic| first
  | ((with_reducible show wpO (gLen _) _); first | refine wO_lenm rfl ?_ | refine wO_len rfl ?_)
  | ((with_reducible show wpO (gList _) _); first | refine wO_list rfl ?_)
  | ((with_reducible show wpO (gTuple _) _); first | refine wO_tuple rfl ?_)
  | ((with_reducible show wpO (gInt _) _); first | refine wO_int rfl ?_)
  | ((with_reducible show wpO (gAbs _) _); first | refine wO_abs rfl ?_)
  | ((with_reducible show wpO (gMax2 _ _) _); first | refine wO_max2 rfl rfl ?_) | fail)
local macro_rules | `(tactic| get_elem_tactic_trivial) => `(tactic| first
  | ((with_reducible show wpO (gGe _ _) _); first | refine wO_ge rfl rfl ?_)
  | ((with_reducible show wpO (gEq _ _) _); first | refine wO_eqI rfl rfl ?_ | refine wO_eqB rfl rfl ?_ | refine wO_eqSt (tx_of _).ok (tx_of _).ok (by decide) ?_ | refine wO_eqSf (tx_of _).ok (tx_of _).ok (by decide) ?_ | fail)
  | ((with_reducible show wpO (gNe _ _) _); first | refine wO_neI rfl rfl ?_ | refine wO_neB rfl rfl ?_)
  | with_reducible refine wO_isN ?_
  | with_reducible refine wO_notN ?_
  | ((with_reducible show wpO (gIsB _ _) _); first | refine wO_isB rfl rfl ?_) | fail)
local macro_rules | `(tactic| get_elem_tactic_trivial) => `(tactic| first
  | ((with_reducible show wpO (gMul _ _) _); first | refine wO_mul rfl rfl (mulOk_small (by omega)) ?_ | refine wO_mul rfl rfl (mulOk_r (by omega)) ?_ | refine wO_mul rfl rfl (by with_reducible assumption) ?_ | fail)
  | ((with_reducible show wpO (gFdiv _ _) _); first | refine wO_fdiv rfl rfl (fdivOk_small (by omega)) ?_ | refine wO_fdiv rfl rfl (by first | with_reducible assumption | rfl) ?_ | fail)
  | ((with_reducible show wpO (gMod _ _) _); first | refine wO_mod rfl rfl (by first | omega | with_reducible assumption) ?_ | fail)
  | ((with_reducible show wpO (gLt _ _) _); first | refine wO_lt rfl rfl ?_)
  | ((with_reducible show wpO (gLe _ _) _); first | refine wO_le rfl rfl ?_)
  | ((with_reducible show wpO (gGt _ _) _); first | refine wO_gt rfl rfl ?_) | fail)
local macro_rules | `(tactic| get_elem_tactic_trivial) => `(tactic| first
  | ((with_reducible show lenB _ _); first | refine lenB_i (by first | omega | (simp <;> omega)) ?_ | fail)
  | ((with_reducible show in62 _ _); first | refine in62_i (by first | omega | with_reducible assumption) (by first | omega | with_reducible assumption) ?_ | fail)
  | ((with_reducible show inM _ _); first | refine inM_i (by first | omega | with_reducible assumption) (by first | omega | with_reducible assumption) ?_ | fail)
  | ((with_reducible show onBl _ _ _); first | with_reducible refine onBl_t ?_ | with_reducible refine onBl_f ?_ | with_reducible refine onBl_nt ?_ | with_reducible refine onBl_nf ?_ | with_reducible refine onBl_dt (by first | omega | with_reducible assumption) ?_ | with_reducible refine onBl_df (by first | omega | with_reducible assumption) ?_ | with_reducible refine onBl_ndt (by first | omega | with_reducible assumption) ?_ | with_reducible refine onBl_ndf (by first | omega | with_reducible assumption) ?_ | fail)
  | ((with_reducible show wpO (gAdd _ _) _); first | refine wO_add rfl rfl ?_ | refine wO_catT rfl rfl (by first | omega | (simp <;> omega)) ?_ | refine wO_catL rfl rfl (by first | omega | (simp <;> omega)) ?_ | refine wO_catT rfl rfl ?_ ?_ | refine wO_catL rfl rfl ?_ ?_)
  | ((with_reducible show wpO (gSubI _ _) _); first | refine wO_sub rfl rfl ?_) | fail)
local macro_rules | `(tactic| get_elem_tactic_trivial) => `(tactic| first
  | ((with_reducible show lstK _ _); first | refine lst_i ?_)
  | ((with_reducible show itK _ _ _ _); first | refine it_seq st_nb rfl ?_ | refine it_seq fr_nb rfl ?_)
  | ((with_reducible show enK _ _ _); first | refine en_seq rfl ?_)
  | ((with_reducible show isBl _ _); first | refine isBl_i rfl ?_)
  | ((with_reducible show isInt _ _); first | refine isInt_i rfl ?_)
  | ((with_reducible show isTru _ _); first | refine isTru_i rfl ?_) | fail)
local macro_rules | `(tactic| get_elem_tactic_trivial) => `(tactic| first
  | with_reducible refine wA_zip ?_
  | with_reducible refine wE_lm ?_
  | with_reducible refine wE_dK0 ?_
  | with_reducible refine wE_dT0 ?_
  | with_reducible refine wA_R3 ?_
  | ((with_reducible show zipK _ _ _); first | refine zip_l ?_ | refine zip_t ?_ | refine zip_lt ?_) | fail)
local macro_rules | `(tactic| get_elem_tactic_trivial) => `(tactic| first
  | with_reducible refine wS_nil ?_
  | with_reducible refine wS_for ?_
  | with_reducible refine wA_it ?_
  | with_reducible refine wA_en ?_
  | with_reducible refine wA_R1 ?_
  | with_reducible refine wA_R2 ?_ | fail)
local macro_rules | `(tactic| get_elem_tactic_trivial) => `(tactic| first
  | with_reducible refine wL_el ?_
  | with_reducible refine wL_cl ?_
  | with_reducible refine wV_none ?_
  | with_reducible refine wV_some ?_
  | with_reducible refine And.intro st_nb ?_
  | with_reducible refine And.intro fr_nb ?_ | fail)
local macro_rules | `(tactic| get_elem_tactic_trivial) => `(tactic| first
  | with_reducible refine wE_callK2 ?_
  | with_reducible refine wE_sl ?_
  | with_reducible refine wE_LRg ?_
  | with_reducible refine wE_TRg ?_
  | with_reducible refine wE_lc ?_
  | with_reducible refine wE_lcN ?_ | fail)
local macro_rules | `(tactic| get_elem_tactic_trivial) => `(tactic| first
  | with_reducible refine wE_tru ?_
  | with_reducible refine wE_if ?_
  | with_reducible refine wE_tup ?_
  | with_reducible refine wE_lst ?_
  | with_reducible refine wE_neg ?_
  | with_reducible refine wE_ev3 ?_ | fail)
local macro_rules | `(tactic| get_elem_tactic_trivial) => `(tactic| first
  | ((with_reducible refine p_Mf ?_); refine pM_f rfl (by repeat (first | with_reducible exact set_0 | with_reducible apply set_s)) ?_)
  | with_reducible refine wE_ev1 ?_
  | with_reducible refine wE_ev2 ?_
  | with_reducible refine wE_and ?_
  | with_reducible refine wE_or ?_
  | with_reducible refine wE_not ?_ | fail)
local macro_rules | `(tactic| get_elem_tactic_trivial) => `(tactic| first
  | with_reducible refine wA_nil ?_
  | with_reducible refine wE_evC ?_
  | ((with_reducible refine v_M ?_); refine vM_a rfl (by repeat (first | with_reducible exact set_0 | with_reducible apply set_s)) ?_)
  | ((with_reducible refine b_M ?_); refine bM_i rfl ?_)
  | ((with_reducible refine m_M ?_); first | refine mM_s rfl ?_ | refine mM_o rfl (by repeat (first | with_reducible exact set_0 | with_reducible apply set_s)) ?_)
  | ((with_reducible refine p_Ms ?_); refine pM_s rfl (by repeat (first | with_reducible exact set_0 | with_reducible apply set_s)) ?_) | fail)
local macro_rules | `(tactic| get_elem_tactic_trivial) => `(tactic| first
  | with_reducible refine wS_if ?_
  | with_reducible refine wS_ret ?_
  | with_reducible refine ret_st ?_
  | with_reducible refine ret_fr ?_
  | with_reducible refine wE_call ?_
  | with_reducible refine wA_cons ?_ | fail)
local macro_rules | `(tactic| get_elem_tactic_trivial) => `(tactic| first
  | with_reducible refine wE_errAt ?_
  | ((with_reducible show errK _ _ _ _); first | refine err_i rfl ?_)
  | ((with_reducible show tryK _ _ _ _ _ _); first | refine try_yes rfl rfl (by repeat (first | with_reducible exact set_0 | with_reducible apply set_s)) ?_ | refine try_no rfl ?_)
  | ((with_reducible show try0K _ _ _ _ _); first | refine try0_yes rfl ?_ | refine try0_no rfl ?_)
  | with_reducible refine wS_seq ?_
  | with_reducible refine wS_set ?_ | fail)
local macro_rules | `(tactic| get_elem_tactic_trivial) => `(tactic| first
  | with_reducible refine wS_raise ?_
  | with_reducible refine raise_st ?_
  | with_reducible refine raise_fr ?_
  | with_reducible refine wS_try ?_
  | with_reducible refine wS_try0 ?_
  | with_reducible refine wE_ref ?_ | fail)
/-! ### the reordering that moves do, walked -/
theorem gIx_0 (m : Mv) : gIx (mvS false m) (.int 1) = some (.st, nD m.at_) := by cases m <;> rfl
theorem rep_0 : ∀ n : Nat, (List.replicate n [D.int 0]).flatten = (List.replicate n 0).map nD
  | 0 => rfl
  | n + 1 => by
    rw [List.replicate_succ, List.replicate_succ, List.flatten_cons, List.map_cons, rep_0 n]
    rfl
theorem law_done_eq (P : Nat) (ms : List Mv) (W : Wd) (h : OkM P ms) (hP : P ≤ 1000) : F__law_done [.lst (ms.map (mvS false)), nD P] W = .ret false (.tup ((List.range P).map fun x => nD (led ms x))) W := by
  obtain ⟨hm, hPP, hl⟩ := h
  refine ret_of ?_
  unfold F__law_done f__law_done
  refine wF_run rfl (by repeat (first | with_reducible exact st_0 | with_reducible apply st_d | with_reducible apply st_n)) ?_
  (repeat' get_elem_tactic_trivial)
  rw [Int.toNat_natCast, rngD_0]
  refine for_inv (mvS false) ms (fun done rest c => ∃ (row : List Nat) (x3 x4 x5 x6 x7 x8 x9 x10 x11 x12 x13 x14 x15 x16 : Option (Bool × D)), RowOk P done row ∧ c = ⟨[some (false, .lst (ms.map (mvS false))), some (false, nD P), some (true, .lst (row.map nD)), x3, x4, x5, x6, x7, x8, x9, x10, x11, x12, x13, x14, x15, x16, none, none, none], W⟩)
    ⟨List.range P, none, none, none, none, none, none, none, none, none, none, none, none, none, none, rowOk_nil P, rfl⟩ (fun done m rest c hx hI => ?_) (fun c hI => ?_)
  · obtain ⟨row, x3, x4, x5, x6, x7, x8, x9, x10, x11, x12, x13, x14, x15, x16, hrow, rfl⟩ := hI
    have hmm := hm m (by rw [hx]; simp)
    have hdone : ∀ x ∈ done, x.ok P := fun x hd => hm x (by rw [hx]; simp [hd])
    have h0 := hmm.1
    have h1 := hmm.2
    have hrl := hrow.ln
    have hpl := part_len hrl h0
    (repeat' get_elem_tactic_trivial)
    refine wO_some (gIx_0 m) ?_
    (repeat' get_elem_tactic_trivial)
    refine call_ret (law_size_eq m W P hmm hPP) rfl ?_
    (repeat' get_elem_tactic_trivial)
    rw [show (m.at_ : Int) + (m.sz : Int) = ((m.at_ + m.sz : Nat) : Int) by omega, cut_nn' nD row m.at_ (m.at_ + m.sz) (by omega) (by omega), show m.at_ + m.sz - m.at_ = m.sz by omega]
    rw [show (row.drop m.at_).take m.sz = part row m.at_ m.sz from rfl]
    obtain ⟨p, hp⟩ : ∃ p, p = part row m.at_ m.sz := ⟨_, rfl⟩
    rw [← hp] at hpl ⊢
    have hcl : ∀ (xs : List Nat) (lo hi : Option Int), (cutD (xs.map nD) lo hi).length ≤ xs.length := fun xs lo hi => by
      have := cutD_len' (xs.map nD) lo hi
      rw [List.length_map] at this
      exact this
    have c1 : cutD (row.map nD) none (some (m.at_ : Int)) = (row.take m.at_).map nD := cut_0n' nD row m.at_ (by omega)
    have c2 : cutD (row.map nD) (some ((m.at_ : Int) + (m.sz : Int))) none = (row.drop (m.at_ + m.sz)).map nD := by
      rw [show (m.at_ : Int) + (m.sz : Int) = ((m.at_ + m.sz : Nat) : Int) by omega]
      exact cut_n0' nD row (m.at_ + m.sz) (by omega)
    have hfin : ∀ lat : List Nat, cutD (row.map nD) none (some (m.at_ : Int)) ++ lat.map nD ++ cutD (row.map nD) (some ((m.at_ : Int) + (m.sz : Int))) none = (spl row lat m.at_ m.sz).map nD := fun lat => by
      rw [c1, c2]
      unfold spl
      rw [List.map_append, List.map_append]
    clear c1 c2
    have k1 := hcl row none (some (m.at_ : Int))
    have k2 := hcl row (some ((m.at_ : Int) + (m.sz : Int))) none
    cases m with
    | swap t u w v =>
      have hstep := rowOk_step (later := latS p u w) hrow hdone hmm (latS_len hpl) (fun j hj => by rw [← hp]; exact latS_get hpl hj)
      have hlat : cutD (p.map nD) (some ((u : Int) + (w : Int))) none ++ cutD (p.map nD) (some (u : Int)) (some ((u : Int) + (w : Int))) ++ cutD (p.map nD) none (some (u : Int)) = (latS p u w).map nD := by
        dsimp only [Mv.sz] at hpl
        rw [show (u : Int) + (w : Int) = ((u + w : Nat) : Int) by omega, cut_n0' nD p (u + w) (by omega), cut_nn' nD p u (u + w) (by omega) (by omega), cut_0n' nD p u (by omega), show u + w - u = w by omega]
        unfold latS
        rw [List.map_append, List.map_append]
      have k3 := hcl p (some ((u : Int) + (w : Int))) none
      have k4 := hcl p (some (u : Int)) (some ((u : Int) + (w : Int)))
      have k5 := hcl p none (some (u : Int))
      have k6 := hcl row (some ((t : Int) + ((u : Int) + (w : Int) + (v : Int)))) none
      dsimp only [Mv.at_, Mv.sz] at *
      dsimp only [mvS, sqD]
      (repeat' get_elem_tactic_trivial)
      rw [hlat, hfin]
      exact ⟨_, _, _, _, _, _, _, _, _, _, _, _, _, _, _, hstep, rfl⟩
    | turn t n a =>
      have hstep := rowOk_step (later := latT p n (a % n)) hrow hdone hmm (latT_len hpl) (fun j hj => by rw [← hp]; exact latT_get h1.1 hpl hj)
      have hsm := Nat.mod_lt a h1.1
      have hlat : cutD (p.map nD) (some ((n : Int) - (a : Int) % (n : Int))) none ++ cutD (p.map nD) none (some ((n : Int) - (a : Int) % (n : Int))) = (latT p n (a % n)).map nD := by
        dsimp only [Mv.sz] at hpl
        rw [show (n : Int) - (a : Int) % (n : Int) = ((n - a % n : Nat) : Int) by rw [← Int.natCast_emod]; omega, cut_n0' nD p (n - a % n) (by omega), cut_0n' nD p (n - a % n) (by omega)]
        unfold latT
        rw [List.map_append]
      have k3 := hcl p (some ((n : Int) - (a : Int) % (n : Int))) none
      have k4 := hcl p none (some ((n : Int) - (a : Int) % (n : Int)))
      dsimp only [Mv.at_, Mv.sz] at *
      dsimp only [mvS, sqD]
      (repeat' get_elem_tactic_trivial)
      rw [hlat, hfin]
      exact ⟨_, _, _, _, _, _, _, _, _, _, _, _, _, _, _, hstep, rfl⟩
    | rev t n =>
      have hstep := rowOk_step (later := p.reverse) hrow hdone hmm (by rw [List.length_reverse]; exact hpl) (fun j hj => by rw [← hp]; exact latR_get hpl hj)
      dsimp only [Mv.at_, Mv.sz] at *
      dsimp only [mvS, sqD]
      (repeat' get_elem_tactic_trivial)
      rw [← List.map_reverse, hfin]
      exact ⟨_, _, _, _, _, _, _, _, _, _, _, _, _, _, _, hstep, rfl⟩
    | deal t r c =>
      have hr : r ≤ r * c := Nat.le_mul_of_pos_right r (by have := h1.2; omega)
      have hc : c ≤ r * c := Nat.le_mul_of_pos_left c (by have := h1.1; omega)
      have hstep := rowOk_step (later := latD p r c) hrow hdone hmm (latD_len p r c) (fun j hj => by rw [← hp]; exact latD_get h1.1 h1.2 hpl hj)
      have hll := latD_len p r c
      have k6 := hcl row (some ((t : Int) + (r : Int) * (c : Int))) none
      dsimp only [Mv.at_, Mv.sz] at *
      dsimp only [mvS, sqD]
      (repeat' get_elem_tactic_trivial)
      rw [Int.toNat_natCast, rngD_0]
      refine lc_alleq nD (fun k => nD (p.getD (k % r * c + k / r) default)) (by rw [List.length_range]; omega) (by repeat (first | with_reducible exact wipe_nil | with_reducible apply wipe_cons | with_reducible exact set_0 | with_reducible apply set_s)) (fun k hk => ?_) ?_
      · have hk := List.mem_range.mp hk
        have hk2 : k % r * c + k / r < c * r := off_lt (m := .deal t c r) (P := t + c * r) ⟨Nat.le_refl _, h1.2, h1.1⟩ (by show k < c * r; rw [Nat.mul_comm]; exact hk)
        rw [Nat.mul_comm c r, ← hpl] at hk2
        (repeat' get_elem_tactic_trivial)
        rw [show (k : Int) % (r : Int) * (c : Int) + (k : Int) / (r : Int) = ((k % r * c + k / r : Nat) : Int) by rw [Int.natCast_add, Int.natCast_mul, Int.natCast_emod, Int.natCast_ediv]]
        generalize k % r * c + k / r = ix at *
        refine wO_ix rfl rfl hk2 ?_
        exact ⟨st_nb, rfl, (by (refine mrg_i ?_; repeat (first | exact mrg_nil | refine mrg_in rfl (by first | with_reducible assumption | rfl) ?_ | refine mrg_out rfl ?_)))⟩
      rw [show (List.range (r * c)).map (fun k => nD (p.getD (k % r * c + k / r) default)) = (latD p r c).map nD by unfold latD; rw [List.map_map]; rfl]
      (repeat' get_elem_tactic_trivial)
      rw [hfin]
      exact ⟨_, _, _, _, _, _, _, _, _, _, _, _, _, _, _, hstep, rfl⟩
    | str t n a =>
      have hg := h1.2.2
      dsimp only [Mv.at_, Mv.sz] at *
      dsimp only [mvS, sqD]
      (repeat' get_elem_tactic_trivial)
      refine wO_repL rfl rfl ⟨by omega, by omega, by show 1 * (n : Int).toNat ≤ 1000000; rw [Int.toNat_natCast]; omega⟩ ?_
      rw [Int.toNat_natCast, rep_0]
      (repeat' get_elem_tactic_trivial)
      refine for_enum nD p (fun dn rs c => ∃ (l : List Nat) (x15 x16 : Option (Bool × D)), l.length = n ∧ (∀ j, j < dn.length → l[j * a % n]? = p[j]?) ∧ c = ⟨[some (false, .lst (ms.map (mvS false))), some (false, nD P), some (true, .lst (row.map nD)), some (false, .tup [.str "stride", nD t, nD n, nD a]), some (false, nD t), some (false, nD n), some (false, .lst (p.map nD)), x7, x8, x9, x10, some (true, .lst (l.map nD)), x12, x13, x14, x15, x16, none, none, none], W⟩) ⟨List.replicate n 0, x15, x16, by simp, fun j hj => absurd hj (Nat.not_lt_zero _), rfl⟩ (fun dn x rs c hxx hI => ?_) (fun c hI => ?_)
      · obtain ⟨l, y15, y16, hll, hlj, rfl⟩ := hI
        have hdl : dn.length < n := by rw [← hpl, hxx]; simp
        have hgx : p[dn.length]? = some x := by rw [hxx]; simp
        have hst := str_step h1.1 hg hdl hll hgx hlj
        have hml : dn.length * a % n < n := Nat.mod_lt _ h1.1
        (repeat' get_elem_tactic_trivial)
        rw [show ((dn.length : Nat) : Int) * (a : Int) % (n : Int) = ((dn.length * a % n : Nat) : Int) by rw [Int.natCast_emod, Int.natCast_mul]]
        refine putI_st (j := dn.length * a % n) rfl (by rw [List.length_map, hll]; exact ixN_natD hml) (by repeat (first | with_reducible exact set_0 | with_reducible apply set_s)) ?_
        refine ⟨l.set (dn.length * a % n) x, some (false, nD dn.length), some (false, nD x), by rw [List.length_set]; exact hll, fun j hj => hst j (by rw [List.length_append] at hj; simpa using hj), ?_⟩
        rw [List.map_set]
        rfl
      · obtain ⟨l, y15, y16, hll, hlj, rfl⟩ := hI
        have hstep := rowOk_step (later := l) hrow hdone hmm hll (fun j hj => by show l[j * a % n]? = (part row t n)[j]?; rw [← hp]; exact hlj j (by rw [hpl]; exact hj))
        dsimp only [Mv.at_, Mv.sz] at hstep
        (repeat' get_elem_tactic_trivial)
        rw [hfin]
        exact ⟨_, _, _, _, _, _, _, _, _, _, _, _, _, _, _, hstep, rfl⟩
  · obtain ⟨row, x3, x4, x5, x6, x7, x8, x9, x10, x11, x12, x13, x14, x15, x16, hrow, rfl⟩ := hI
    have hrl := hrow.ln
    (repeat' get_elem_tactic_trivial)
    refine wO_repL rfl rfl ⟨by omega, by omega, by show 1 * (P : Int).toNat ≤ 1000000; rw [Int.toNat_natCast]; omega⟩ ?_
    rw [Int.toNat_natCast, rep_0]
    (repeat' get_elem_tactic_trivial)
    refine for_enum nD row (fun dn rs c => ∃ (p : List Nat) (x16 x18 : Option (Bool × D)), p.length = P ∧ (∀ y, y < P → led ms y < dn.length → p[y]? = some (led ms y)) ∧ c = ⟨[some (false, .lst (ms.map (mvS false))), some (false, nD P), some (false, .lst (row.map nD)), x3, x4, x5, x6, x7, x8, x9, x10, x11, x12, x13, x14, x15, x16, some (true, .lst (p.map nD)), x18, none], W⟩) ⟨List.replicate P 0, x16, none, by simp, fun y _ hj => absurd hj (Nat.not_lt_zero _), rfl⟩ (fun dn x rs c hxx hI => ?_) (fun c hI => ?_)
    · obtain ⟨p, y16, y18, hpl, hpj, rfl⟩ := hI
      have hdl : dn.length < P := by rw [← hrl, hxx]; simp
      have hgx : row[dn.length]? = some x := by rw [hxx]; simp
      obtain ⟨hxP, hst⟩ := tell_step hrow hm hdl hgx hpl hpj
      (repeat' get_elem_tactic_trivial)
      refine putI_st (j := x) rfl (by rw [List.length_map, hpl]; exact ixN_natD hxP) (by repeat (first | with_reducible exact set_0 | with_reducible apply set_s)) ?_
      refine ⟨p.set x dn.length, some (false, nD x), some (false, nD dn.length), by rw [List.length_set]; exact hpl, fun y hy hj => hst y hy (by rw [List.length_append] at hj; simpa using hj), ?_⟩
      rw [List.map_set]
      rfl
    · obtain ⟨p, y16, y18, hpl, hpj, rfl⟩ := hI
      (repeat' get_elem_tactic_trivial)
      refine ⟨rfl, ?_, rfl⟩
      congr 1
      have : p = (List.range P).map fun x => led ms x := by
        apply List.ext_getElem?
        intro i
        by_cases hi : i < P
        · rw [hpj i hi (by rw [hrl]; exact led_lt ms i hm hi), List.getElem?_map, List.getElem?_range hi]
          rfl
        · rw [List.getElem?_eq_none (by omega), List.getElem?_eq_none (by simp; omega)]
      rw [this, List.map_map]
      rfl
end DL.K56
namespace DL.K56
open PySem PySem.Spec PyProof.Rows L2 DL
local macro_rules | `(tactic| get_elem_tactic_trivial) => `(tactic| first
  | ((with_reducible show wpC (tgUnl _ _ _ _) _); first | refine wC_unl rfl rfl ?_)
  | ((with_reducible refine t_M ?_); refine tM_i rfl (by repeat (first | with_reducible exact set_0 | with_reducible apply set_s)) ?_)
  | ((with_reducible show wpS (sApp _ _ _) _); first | refine wS_app rfl ?_)
  | ((with_reducible show appK _ _ _ _ _); first | refine app_st (by first | exact st_nb | exact fr_nb) rfl (by first | omega | (simp <;> omega)) (by repeat (first | with_reducible exact set_0 | with_reducible apply set_s)) ?_ | fail)
  | ((with_reducible show ownK _ _ _); first | refine own_i rfl ?_)
  | ((with_reducible show wpS (sAppPop _ _ _ _) _); first | refine wS_appPop rfl rfl ?_) | fail)
local macro_rules | `(tactic| get_elem_tactic_trivial) => `(tactic| first
  | with_reducible refine wS_drop ?_
  | with_reducible refine wS_retN ?_
  | with_reducible refine wS_brk ?_
  | with_reducible refine wS_cnt ?_
  | ((with_reducible show par3K _ _ _ _ _ _); first | refine par3_st (lt_of_ble rfl) (lt_of_ble rfl) (lt_of_ble rfl) (by repeat (first | with_reducible exact set_0 | with_reducible apply set_s)) (by repeat (first | with_reducible exact set_0 | with_reducible apply set_s)) (by repeat (first | with_reducible exact set_0 | with_reducible apply set_s)) ?_)
  | ((with_reducible show wpC (tgTup _ _ _ _) _); first | refine wC_tup rfl rfl ?_) | fail)
local macro_rules | `(tactic| get_elem_tactic_trivial) => `(tactic| first
  | with_reducible refine wS_asg ?_
  | with_reducible refine wC_cons ?_
  | with_reducible refine wC_nil ?_
  | with_reducible refine wS_putI ?_
  | with_reducible refine wS_swapI ?_
  | with_reducible refine swap_i ?_ | fail)
local macro_rules | `(tactic| get_elem_tactic_trivial) => `(tactic| first
  | with_reducible refine wO_rep_non ?_
  | ((with_reducible show wpO (gRep0 _) _); first | refine wO_rep_bl rfl ?_)
  | with_reducible refine wO_all ?_
  | with_reducible refine wO_any ?_
  | with_reducible refine wS_parK ?_
  | with_reducible refine wS_par3 ?_ | fail)
local macro_rules | `(tactic| get_elem_tactic_trivial) => `(tactic| first
  | ((with_reducible show wpO (gMin2 _ _) _); first | refine wO_min2 rfl rfl ?_)
  | ((with_reducible show wpO (gIx _ _) _); first | refine wO_ix rfl rfl (by first | omega | with_reducible assumption) ?_ | refine wO_ix_last rfl rfl (by first | with_reducible assumption | simp) ?_ | refine wO_ixi rfl rfl (by first | omega | with_reducible assumption) ?_ | refine wO_ixl rfl ?_)
  | ((with_reducible show wpO (gErrIs _ _) _); first | refine wO_errIs rfl ?_)
  | ((with_reducible show wpO (gIsi _ _) _); first | refine wO_isi rfl ?_)
  | ((with_reducible show wpO (gSl _ _ _) _); first | refine wO_slL rfl ?_ | refine wO_slT rfl ?_)
  | ((with_reducible show wpO (gRev _) _); first | refine wO_revL rfl ?_ | refine wO_revT rfl ?_) | fail)
local macro_rules | `(tactic| get_elem_tactic_trivial) => `(tactic| first
  | ((with_reducible show wpO (gLen _) _); first | refine wO_lenm rfl ?_ | refine wO_len rfl ?_)
  | ((with_reducible show wpO (gList _) _); first | refine wO_list rfl ?_)
  | ((with_reducible show wpO (gTuple _) _); first | refine wO_tuple rfl ?_)
  | ((with_reducible show wpO (gInt _) _); first | refine wO_int rfl ?_)
  | ((with_reducible show wpO (gAbs _) _); first | refine wO_abs rfl ?_)
  | ((with_reducible show wpO (gMax2 _ _) _); first | refine wO_max2 rfl rfl ?_) | fail)
local macro_rules | `(tactic| get_elem_tactic_trivial) => `(tactic| first
  | ((with_reducible show wpO (gGe _ _) _); first | refine wO_ge rfl rfl ?_)
  | ((with_reducible show wpO (gEq _ _) _); first | refine wO_eqI rfl rfl ?_ | refine wO_eqB rfl rfl ?_ | refine wO_eqSt (tx_of _).ok (tx_of _).ok (by decide) ?_ | refine wO_eqSf (tx_of _).ok (tx_of _).ok (by decide) ?_ | fail)
  | ((with_reducible show wpO (gNe _ _) _); first | refine wO_neI rfl rfl ?_ | refine wO_neB rfl rfl ?_)
  | with_reducible refine wO_isN ?_
  | with_reducible refine wO_notN ?_
  | ((with_reducible show wpO (gIsB _ _) _); first | refine wO_isB rfl rfl ?_) | fail)
local macro_rules | `(tactic| get_elem_tactic_trivial) => `(tactic| first
  | ((with_reducible show wpO (gMul _ _) _); first | refine wO_mul rfl rfl (mulOk_small (by omega)) ?_ | refine wO_mul rfl rfl (mulOk_r (by omega)) ?_ | refine wO_mul rfl rfl (by with_reducible assumption) ?_ | fail)
  | ((with_reducible show wpO (gFdiv _ _) _); first | refine wO_fdiv rfl rfl (fdivOk_small (by omega)) ?_ | refine wO_fdiv rfl rfl (by first | with_reducible assumption | rfl) ?_ | fail)
  | ((with_reducible show wpO (gMod _ _) _); first | refine wO_mod rfl rfl (by first | omega | with_reducible assumption) ?_ | fail)
  | ((with_reducible show wpO (gLt _ _) _); first | refine wO_lt rfl rfl ?_)
  | ((with_reducible show wpO (gLe _ _) _); first | refine wO_le rfl rfl ?_)
  | ((with_reducible show wpO (gGt _ _) _); first | refine wO_gt rfl rfl ?_) | fail)
local macro_rules | `(tactic| get_elem_tactic_trivial) => `(tactic| first
  | ((with_reducible show lenB _ _); first | refine lenB_i (by first | omega | (simp <;> omega)) ?_ | fail)
  | ((with_reducible show in62 _ _); first | refine in62_i (by first | omega | with_reducible assumption) (by first | omega | with_reducible assumption) ?_ | fail)
  | ((with_reducible show inM _ _); first | refine inM_i (by first | omega | with_reducible assumption) (by first | omega | with_reducible assumption) ?_ | fail)
  | ((with_reducible show onBl _ _ _); first | with_reducible refine onBl_t ?_ | with_reducible refine onBl_f ?_ | with_reducible refine onBl_nt ?_ | with_reducible refine onBl_nf ?_ | with_reducible refine onBl_dt (by first | omega | with_reducible assumption) ?_ | with_reducible refine onBl_df (by first | omega | with_reducible assumption) ?_ | with_reducible refine onBl_ndt (by first | omega | with_reducible assumption) ?_ | with_reducible refine onBl_ndf (by first | omega | with_reducible assumption) ?_ | fail)
  | ((with_reducible show wpO (gAdd _ _) _); first | refine wO_add rfl rfl ?_ | refine wO_catT rfl rfl (by first | omega | (simp <;> omega)) ?_ | refine wO_catL rfl rfl (by first | omega | (simp <;> omega)) ?_ | refine wO_catT rfl rfl ?_ ?_ | refine wO_catL rfl rfl ?_ ?_)
  | ((with_reducible show wpO (gSubI _ _) _); first | refine wO_sub rfl rfl ?_) | fail)
local macro_rules | `(tactic| get_elem_tactic_trivial) => `(tactic| first
  | ((with_reducible show lstK _ _); first | refine lst_i ?_)
  | ((with_reducible show itK _ _ _ _); first | refine it_seq st_nb rfl ?_ | refine it_seq fr_nb rfl ?_)
  | ((with_reducible show enK _ _ _); first | refine en_seq rfl ?_)
  | ((with_reducible show isBl _ _); first | refine isBl_i rfl ?_)
  | ((with_reducible show isInt _ _); first | refine isInt_i rfl ?_)
  | ((with_reducible show isTru _ _); first | refine isTru_i rfl ?_) | fail)
local macro_rules | `(tactic| get_elem_tactic_trivial) => `(tactic| first
  | with_reducible refine wA_zip ?_
  | with_reducible refine wE_lm ?_
  | with_reducible refine wE_dK0 ?_
  | with_reducible refine wE_dT0 ?_
  | with_reducible refine wA_R3 ?_
  | ((with_reducible show zipK _ _ _); first | refine zip_l ?_ | refine zip_t ?_ | refine zip_lt ?_) | fail)
local macro_rules | `(tactic| get_elem_tactic_trivial) => `(tactic| first
  | with_reducible refine wS_nil ?_
  | with_reducible refine wS_for ?_
  | with_reducible refine wA_it ?_
  | with_reducible refine wA_en ?_
  | with_reducible refine wA_R1 ?_
  | with_reducible refine wA_R2 ?_ | fail)
local macro_rules | `(tactic| get_elem_tactic_trivial) => `(tactic| first
  | with_reducible refine wL_el ?_
  | with_reducible refine wL_cl ?_
  | with_reducible refine wV_none ?_
  | with_reducible refine wV_some ?_
  | with_reducible refine And.intro st_nb ?_
  | with_reducible refine And.intro fr_nb ?_ | fail)
local macro_rules | `(tactic| get_elem_tactic_trivial) => `(tactic| first
  | with_reducible refine wE_callK2 ?_
  | with_reducible refine wE_sl ?_
  | with_reducible refine wE_LRg ?_
  | with_reducible refine wE_TRg ?_
  | with_reducible refine wE_lc ?_
  | with_reducible refine wE_lcN ?_ | fail)
local macro_rules | `(tactic| get_elem_tactic_trivial) => `(tactic| first
  | with_reducible refine wE_tru ?_
  | with_reducible refine wE_if ?_
  | with_reducible refine wE_tup ?_
  | with_reducible refine wE_lst ?_
  | with_reducible refine wE_neg ?_
  | with_reducible refine wE_ev3 ?_ | fail)
local macro_rules | `(tactic| get_elem_tactic_trivial) => `(tactic| first
  | ((with_reducible refine p_Mf ?_); refine pM_f rfl (by repeat (first | with_reducible exact set_0 | with_reducible apply set_s)) ?_)
  | with_reducible refine wE_ev1 ?_
  | with_reducible refine wE_ev2 ?_
  | with_reducible refine wE_and ?_
  | with_reducible refine wE_or ?_
  | with_reducible refine wE_not ?_ | fail)
local macro_rules | `(tactic| get_elem_tactic_trivial) => `(tactic| first
  | with_reducible refine wA_nil ?_
  | with_reducible refine wE_evC ?_
  | ((with_reducible refine v_M ?_); refine vM_a rfl (by repeat (first | with_reducible exact set_0 | with_reducible apply set_s)) ?_)
  | ((with_reducible refine b_M ?_); refine bM_i rfl ?_)
  | ((with_reducible refine m_M ?_); first | refine mM_s rfl ?_ | refine mM_o rfl (by repeat (first | with_reducible exact set_0 | with_reducible apply set_s)) ?_)
  | ((with_reducible refine p_Ms ?_); refine pM_s rfl (by repeat (first | with_reducible exact set_0 | with_reducible apply set_s)) ?_) | fail)
local macro_rules | `(tactic| get_elem_tactic_trivial) => `(tactic| first
  | with_reducible refine wS_if ?_
  | with_reducible refine wS_ret ?_
  | with_reducible refine ret_st ?_
  | with_reducible refine ret_fr ?_
  | with_reducible refine wE_call ?_
  | with_reducible refine wA_cons ?_ | fail)
local macro_rules | `(tactic| get_elem_tactic_trivial) => `(tactic| first
  | with_reducible refine wE_errAt ?_
  | ((with_reducible show errK _ _ _ _); first | refine err_i rfl ?_)
  | ((with_reducible show tryK _ _ _ _ _ _); first | refine try_yes rfl rfl (by repeat (first | with_reducible exact set_0 | with_reducible apply set_s)) ?_ | refine try_no rfl ?_)
  | ((with_reducible show try0K _ _ _ _ _); first | refine try0_yes rfl ?_ | refine try0_no rfl ?_)
  | with_reducible refine wS_seq ?_
  | with_reducible refine wS_set ?_ | fail)
local macro_rules | `(tactic| get_elem_tactic_trivial) => `(tactic| first
  | with_reducible refine wS_raise ?_
  | with_reducible refine raise_st ?_
  | with_reducible refine raise_fr ?_
  | with_reducible refine wS_try ?_
  | with_reducible refine wS_try0 ?_
  | with_reducible refine wE_ref ?_ | fail)
/-! ### draws -/
theorem any_call {W : Wd} (hW : WOk1 W) (n : Nat) (h0 : 0 < n) (h1 : n < 2 ^ 60) : ∃ (k : Nat) (W' : Wd), k < n ∧ WOk1 W' ∧ F__law_any [.deal, .int (n : Int)] W = .ret false (nD k) W' := any_ex hW h0 h1
instance : Inhabited D := ⟨.non⟩
theorem getD_mem {α : Type} [Inhabited α] {fs : List α} {i : Nat} (h : i < fs.length) : fs.getD i default ∈ fs := by
  rw [List.getD_eq_getElem?_getD, List.getElem?_eq_getElem h]
  exact List.getElem_mem h
theorem law_of_ex {α : Type} [Inhabited α] (e : α → D) (xs : List α) (W : Wd) (hW : WOk1 W) (h0 : xs ≠ []) (hl : xs.length ≤ 1000) : ∃ x ∈ xs, ∃ W', WOk1 W' ∧ F__law_of [.deal, .lst (xs.map e)] W = .ret false (e x) W' := by
  have hp : 0 < xs.length := List.length_pos_iff.mpr h0
  obtain ⟨k, W1, hk, hW1, e1⟩ := any_ex hW hp (by omega)
  refine ⟨xs.getD k default, getD_mem hk, W1, hW1, ret_of ?_⟩
  unfold F__law_of f__law_of
  refine wF_run rfl (by repeat (first | with_reducible exact st_0 | with_reducible apply st_d | with_reducible apply st_n)) ?_
  (repeat' get_elem_tactic_trivial)
  refine call_ret e1 rfl ?_
  (repeat' get_elem_tactic_trivial)
  exact ⟨rfl, rfl, rfl⟩
theorem law_of_D (ds : List D) (W : Wd) (hW : WOk1 W) (h0 : ds ≠ []) (hl : ds.length ≤ 1000) : ∃ x ∈ ds, ∃ W', WOk1 W' ∧ F__law_of [.deal, .lst ds] W = .ret false x W' := by
  have := law_of_ex (id : D → D) ds W hW h0 hl
  rw [List.map_id] at this
  exact this
theorem call_of {Q : QE} {X : QX} {r : List (Option (Bool × D))} {ds : List D} {W : Wd} (hW : WOk1 W) (h0 : ds ≠ []) (hl : ds.length ≤ 1000) (hq : ∀ d ∈ ds, ∀ W', WOk1 W' → Q .st d ⟨r, W'⟩) : callK 2 F__law_of Q X [.deal, .lst ds] ⟨r, W⟩ := by
  obtain ⟨d, hd, W', hW', e⟩ := law_of_D ds W hW h0 hl
  exact call_ret e rfl (hq d hd W' hW')
theorem large_ex (n : Nat) (W : Wd) (hW : WOk1 W) (h0 : 0 < n) (hn : n ≤ 2000000000000000001) : ∃ (k : Nat) (W' : Wd), k < n ∧ WOk1 W' ∧ F__law_large [.deal, nD n] W = .ret false (nD k) W' := by
  suffices hz : wpF (F__law_large [.deal, nD n] W) (fun fr d W' => fr = false ∧ WOk1 W' ∧ ∃ k : Nat, k < n ∧ d = nD k) (fun _ _ => False) by
    obtain ⟨fr, d, W', e, rfl, h1, k, hk, rfl⟩ := wpF_ex hz
    exact ⟨k, W', hk, h1, e⟩
  unfold F__law_large f__law_large
  refine wF_run rfl (by repeat (first | with_reducible exact st_0 | with_reducible apply st_d | with_reducible apply st_n)) ?_
  (repeat' get_elem_tactic_trivial)
  refine onBl_d (fun g => ?_) (fun g => ?_)
  · obtain ⟨k, W1, hk, hW1, e1⟩ := any_call hW n h0 (by omega)
    (repeat' get_elem_tactic_trivial)
    refine call_ret e1 rfl ?_
    (repeat' get_elem_tactic_trivial)
    exact ⟨rfl, hW1, k, hk, rfl⟩
  · (repeat' get_elem_tactic_trivial)
    refine for_rng0 3 (fun _ c => ∃ (f : Nat) (x3 : Option (Bool × D)) (W1 : Wd), WOk1 W1 ∧ c = ⟨[some (false, .deal), some (false, nD n), some (false, nD f), x3], W1⟩) ⟨0, none, W, hW, rfl⟩ (fun j c hj hI => ?_) (fun c hI => ?_)
    · obtain ⟨f, x3, W1, hW1, rfl⟩ := hI
      obtain ⟨y, W2, hy, hW2, e2⟩ := any_call hW1 1000000 (by omega) (by omega)
      (repeat' get_elem_tactic_trivial)
      refine call_ret e2 rfl ?_
      (repeat' get_elem_tactic_trivial)
      refine ⟨f * 1000000 + y, some (false, nD j), W2, hW2, ?_⟩
      unfold nD
      rw [show ((f * 1000000 + y : Nat) : Int) = (f : Int) * 1000000 + (y : Int) by omega]
    · obtain ⟨f, x3, W1, hW1, rfl⟩ := hI
      (repeat' get_elem_tactic_trivial)
      refine ⟨rfl, hW1, f % n, Nat.mod_lt _ h0, ?_⟩
      exact congrArg D.int (Int.natCast_emod f n).symm
theorem some_ex (n : Nat) (W : Wd) (hW : WOk1 W) (h0 : 0 < n) (hn : n ≤ 2000000000000000001) : ∃ (k : Nat) (W' : Wd), k < n ∧ WOk1 W' ∧ F__law_some [.deal, nD n] W = .ret false (nD k) W' := by
  suffices hz : wpF (F__law_some [.deal, nD n] W) (fun fr d W' => fr = false ∧ WOk1 W' ∧ ∃ k : Nat, k < n ∧ d = nD k) (fun _ _ => False) by
    obtain ⟨fr, d, W', e, rfl, h1, k, hk, rfl⟩ := wpF_ex hz
    exact ⟨k, W', hk, h1, e⟩
  obtain ⟨f, W1, hf, hW1, e1⟩ := any_call hW 4 (by omega) (by omega)
  unfold F__law_some f__law_some
  refine wF_run rfl (by repeat (first | with_reducible exact st_0 | with_reducible apply st_d | with_reducible apply st_n)) ?_
  (repeat' get_elem_tactic_trivial)
  refine call_ret e1 rfl ?_
  (repeat' get_elem_tactic_trivial)
  refine onBl_d (fun g => ?_) (fun g => ?_)
  · obtain ⟨y, W2, hy, hW2, e2⟩ := any_call hW1 4 (by omega) (by omega)
    (repeat' get_elem_tactic_trivial)
    refine call_ret e2 rfl ?_
    (repeat' get_elem_tactic_trivial)
    refine ⟨rfl, hW2, min (n - 1) y, by omega, congrArg D.int ?_⟩
    split <;> omega
  · (repeat' get_elem_tactic_trivial)
    refine onBl_d (fun g2 => ?_) (fun g2 => ?_)
    · obtain ⟨y, W2, hy, hW2, e2⟩ := any_call hW1 3 (by omega) (by omega)
      (repeat' get_elem_tactic_trivial)
      refine call_ret e2 rfl ?_
      (repeat' get_elem_tactic_trivial)
      refine ⟨rfl, hW2, n - 1 - y, by omega, congrArg D.int ?_⟩
      split <;> omega
    · obtain ⟨y, W2, hy, hW2, e2⟩ := large_ex n W1 hW1 h0 hn
      (repeat' get_elem_tactic_trivial)
      refine call_ret e2 rfl ?_
      (repeat' get_elem_tactic_trivial)
      exact ⟨rfl, hW2, y, hy, rfl⟩
def namesD : D := .lst [.str "swap", .str "turn", .str "reverse", .str "deal", .str "stride"]
theorem eqv_nm : Eqv (fun a : Nm => D.str (nmS a)) 0 := ⟨fun a => eqv_cl.gd (.inl a), fun a b p q h1 h2 => (eqv_cl.eq (.inl a) (.inl b) p q h1 h2).trans ⟨fun z => Sum.inl.inj z, fun z => by rw [z]⟩⟩
theorem name_in (a : Nm) : gIn (.str (nmS a)) namesD = some (.st, .bl true) := by
  have := gIn_of eqv_nm (by omega) a [.swap, .turn, .rev, .deal, .str]
  rw [decide_eq_true (by cases a <;> simp)] at this
  exact this
theorem move_ex (P : Nat) (W : Wd) (hW : WOk1 W) (h0 : 0 < P) (hP : P ≤ 1000000000000000000) : ∃ (m : Mv) (W' : Wd), m.ok P ∧ WOk1 W' ∧ F__law_move [.deal, nD P, namesD] W = .ret false (mvS false m) W' := by
  suffices hz : wpF (F__law_move [.deal, nD P, namesD] W) (fun fr d W' => fr = false ∧ WOk1 W' ∧ ∃ m : Mv, m.ok P ∧ d = mvS false m) (fun _ _ => False) by
    obtain ⟨fr, d, W', e, rfl, h1, k, hk, rfl⟩ := wpF_ex hz
    exact ⟨k, W', hk, h1, e⟩
  unfold F__law_move f__law_move
  refine wF_run rfl (by repeat (first | with_reducible exact st_0 | with_reducible apply st_d | with_reducible apply st_n)) ?_
  (repeat' get_elem_tactic_trivial)
  unfold namesD
  refine call_of hW (by simp) (by simp) (fun d hd W1 hW1 => ?_)
  obtain ⟨nm, rfl⟩ : ∃ nm : Nm, d = .str (nmS nm) := by
    simp only [List.mem_cons, List.not_mem_nil, or_false] at hd
    rcases hd with rfl | rfl | rfl | rfl | rfl
    · exact ⟨.swap, rfl⟩
    · exact ⟨.turn, rfl⟩
    · exact ⟨.rev, rfl⟩
    · exact ⟨.deal, rfl⟩
    · exact ⟨.str, rfl⟩
  clear hd
  (repeat' get_elem_tactic_trivial)
  refine onBl_d (fun g => ?_) (fun g => ?_)
  · have hP1 : P = 1 := by omega
    subst hP1
    (repeat' get_elem_tactic_trivial)
    refine lc_eq (xs := [Mv.rev 0 1, .turn 0 1 3, .deal 0 1 1, .str 0 1 0]) (mvS false) (fun _ => true) (mvS false) (by simp) (by repeat (first | with_reducible exact wipe_nil | with_reducible apply wipe_cons | with_reducible exact set_0 | with_reducible apply set_s)) (fun x hx => ?_) ?_
    · (repeat' get_elem_tactic_trivial)
      refine wO_some (show gIx (mvS false x) (.int 0) = some (.st, .str (nmS x.nm)) from by cases x <;> rfl) ?_
      (repeat' get_elem_tactic_trivial)
      refine wO_some (name_in x.nm) ?_
      refine ⟨rfl, fun z => (by cases z), fun _ => ?_⟩
      (repeat' get_elem_tactic_trivial)
      exact ⟨rfl, (by (refine mrg_i ?_; repeat (first | exact mrg_nil | refine mrg_in rfl (by first | with_reducible assumption | rfl) ?_ | refine mrg_out rfl ?_)))⟩
    rw [show ([Mv.rev 0 1, .turn 0 1 3, .deal 0 1 1, .str 0 1 0].filter fun _ => true) = [Mv.rev 0 1, .turn 0 1 3, .deal 0 1 1, .str 0 1 0] from rfl]
    refine ⟨fr_nb, ?_⟩
    (repeat' get_elem_tactic_trivial)
    refine call_of hW1 (by simp) (by simp) (fun d hd W2 hW2 => ?_)
    refine ⟨st_nb, rfl, hW2, ?_⟩
    obtain ⟨m, hm, rfl⟩ := List.mem_map.mp hd
    refine ⟨m, ?_, rfl⟩
    simp only [List.mem_cons, List.not_mem_nil, or_false] at hm
    rcases hm with rfl | rfl | rfl | rfl
    · exact ⟨by decide, by decide⟩
    · exact ⟨by decide, by decide⟩
    · exact ⟨by decide, by decide⟩
    · exact ⟨by decide, by decide⟩
  · obtain ⟨t, W2, ht, hW2, e2⟩ := some_ex (P - 1) W1 hW1 (by omega) (by omega)
    have i1 : (P : Int) - 1 = ((P - 1 : Nat) : Int) := by omega
    obtain ⟨R, hR⟩ : ∃ R, R = P - t := ⟨_, rfl⟩
    have i2 : (P : Int) - (t : Int) = (R : Int) := by omega
    cases nm with
    | swap =>
      dsimp only [nmS]
      obtain ⟨u', W3, hu', hW3, e3⟩ := some_ex (R - 1) W2 hW2 (by omega) (by omega)
      obtain ⟨u, hu⟩ : ∃ u, u = 1 + u' := ⟨_, rfl⟩
      obtain ⟨v', W4, hv', hW4, e4⟩ := some_ex (R - u) W3 hW3 (by omega) (by omega)
      obtain ⟨v, hv⟩ : ∃ v, v = 1 + v' := ⟨_, rfl⟩
      obtain ⟨y, W5, hy, hW5, e5⟩ := any_call hW4 2 (by omega) (by omega)
      obtain ⟨w, W6, hw, hW6, e6⟩ := some_ex (R - u - v + 1) W5 hW5 (by omega) (by omega)
      (repeat' get_elem_tactic_trivial)
      rw [i1]
      refine call_ret e2 rfl ?_
      (repeat' get_elem_tactic_trivial)
      rw [i2]
      (repeat' get_elem_tactic_trivial)
      rw [show (R : Int) - 1 = ((R - 1 : Nat) : Int) by omega]
      refine call_ret e3 rfl ?_
      refine wO_add (i := 1) (j := (u' : Int)) rfl rfl ?_
      rw [show (1 : Int) + (u' : Int) = (u : Int) by omega]
      (repeat' get_elem_tactic_trivial)
      rw [show (R : Int) - (u : Int) = ((R - u : Nat) : Int) by omega]
      refine call_ret e4 rfl ?_
      refine wO_add (i := 1) (j := (v' : Int)) rfl rfl ?_
      rw [show (1 : Int) + (v' : Int) = (v : Int) by omega]
      (repeat' get_elem_tactic_trivial)
      refine call_ret e5 rfl ?_
      (repeat' get_elem_tactic_trivial)
      refine onBl_d (fun a1 => ?_) (fun a1 => ?_)
      · (repeat' get_elem_tactic_trivial)
        rw [show (R : Int) - (u : Int) - (v : Int) + 1 = ((R - u - v + 1 : Nat) : Int) by omega]
        refine call_ret e6 rfl ?_
        (repeat' get_elem_tactic_trivial)
        refine ⟨rfl, hW6, .swap t u w v, ⟨?_, ?_⟩, rfl⟩
        · show t + (u + w + v) ≤ P; omega
        · show 1 ≤ u ∧ 1 ≤ v; omega
      · (repeat' get_elem_tactic_trivial)
        refine ⟨rfl, hW5, .swap t u 0 v, ⟨?_, ?_⟩, rfl⟩
        · show t + (u + 0 + v) ≤ P; omega
        · show 1 ≤ u ∧ 1 ≤ v; omega
    | turn =>
      dsimp only [nmS]
      obtain ⟨n', W3, hn', hW3, e3⟩ := some_ex R W2 hW2 (by omega) (by omega)
      obtain ⟨n, hn⟩ : ∃ n, n = 1 + n' := ⟨_, rfl⟩
      obtain ⟨a, W4, ha, hW4, e4⟩ := some_ex (2 * n + 1) W3 hW3 (by omega) (by omega)
      (repeat' get_elem_tactic_trivial)
      rw [i1]
      refine call_ret e2 rfl ?_
      (repeat' get_elem_tactic_trivial)
      rw [i2]
      (repeat' get_elem_tactic_trivial)
      refine call_ret e3 rfl ?_
      refine wO_add (i := 1) (j := (n' : Int)) rfl rfl ?_
      rw [show (1 : Int) + (n' : Int) = (n : Int) by omega]
      (repeat' get_elem_tactic_trivial)
      rw [show 2 * (n : Int) + 1 = ((2 * n + 1 : Nat) : Int) by omega]
      refine call_ret e4 rfl ?_
      (repeat' get_elem_tactic_trivial)
      refine ⟨rfl, hW4, .turn t n a, ⟨?_, ?_⟩, rfl⟩
      · show t + n ≤ P; omega
      · show 1 ≤ n ∧ a ≤ 2 * P + 100; omega
    | rev =>
      dsimp only [nmS]
      obtain ⟨n', W3, hn', hW3, e3⟩ := some_ex R W2 hW2 (by omega) (by omega)
      obtain ⟨n, hn⟩ : ∃ n, n = 1 + n' := ⟨_, rfl⟩
      (repeat' get_elem_tactic_trivial)
      rw [i1]
      refine call_ret e2 rfl ?_
      (repeat' get_elem_tactic_trivial)
      rw [i2]
      (repeat' get_elem_tactic_trivial)
      refine call_ret e3 rfl ?_
      refine wO_add (i := 1) (j := (n' : Int)) rfl rfl ?_
      rw [show (1 : Int) + (n' : Int) = (n : Int) by omega]
      (repeat' get_elem_tactic_trivial)
      refine ⟨rfl, hW3, .rev t n, ⟨?_, ?_⟩, rfl⟩
      · show t + n ≤ P; omega
      · show 1 ≤ n; omega
    | deal =>
      dsimp only [nmS]
      (repeat' get_elem_tactic_trivial)
      rw [i1]
      refine call_ret e2 rfl ?_
      (repeat' get_elem_tactic_trivial)
      rw [i2]
      (repeat' get_elem_tactic_trivial)
      refine call_of hW2 (by simp) (by simp) (fun d hd W3 hW3 => ?_)
      obtain ⟨q, hq0, hq1, rfl⟩ : ∃ q : Nat, 3 ≤ q ∧ q ≤ 1000 ∧ d = nD q := by
        rcases List.mem_cons.mp hd with rfl | hd
        · exact ⟨3, by omega, by omega, rfl⟩
        rcases List.mem_cons.mp hd with rfl | hd
        · exact ⟨8, by omega, by omega, rfl⟩
        rw [List.mem_singleton.mp hd]
        exact ⟨1000, by omega, by omega, rfl⟩
      clear hd
      obtain ⟨b, hb⟩ : ∃ b, b = min R q := ⟨_, rfl⟩
      have ib : (if (q : Int) < (R : Int) then (q : Int) else (R : Int)) = (b : Int) := by split <;> omega
      obtain ⟨r', W4, hr', hW4, e4⟩ := any_call hW3 b (by omega) (by omega)
      obtain ⟨r, hr⟩ : ∃ r, r = 1 + r' := ⟨_, rfl⟩
      have hdv : R / r ≤ R := Nat.div_le_self _ _
      have hdp : 0 < R / r := Nat.div_pos (by omega) (by omega)
      obtain ⟨c', W5, hc', hW5, e5⟩ := some_ex (R / r) W4 hW4 hdp (by omega)
      obtain ⟨c, hc⟩ : ∃ c, c = 1 + c' := ⟨_, rfl⟩
      obtain ⟨y, W6, hy, hW6, e6⟩ := any_call hW5 2 (by omega) (by omega)
      have hrc : r * c ≤ R := Nat.le_trans (Nat.mul_le_mul_left r (by omega : c ≤ R / r)) (Nat.mul_div_le R r)
      (repeat' get_elem_tactic_trivial)
      rw [ib]
      refine call_ret e4 rfl ?_
      refine wO_add (i := 1) (j := (r' : Int)) rfl rfl ?_
      rw [show (1 : Int) + (r' : Int) = (r : Int) by omega]
      (repeat' get_elem_tactic_trivial)
      rw [show (R : Int) / (r : Int) = ((R / r : Nat) : Int) from (Int.natCast_ediv R r).symm]
      refine call_ret e5 rfl ?_
      refine wO_add (i := 1) (j := (c' : Int)) rfl rfl ?_
      rw [show (1 : Int) + (c' : Int) = (c : Int) by omega]
      (repeat' get_elem_tactic_trivial)
      refine call_ret e6 rfl ?_
      (repeat' get_elem_tactic_trivial)
      refine onBl_d (fun a1 => ?_) (fun a1 => ?_)
      · (repeat' get_elem_tactic_trivial)
        refine ⟨rfl, hW6, .deal t r c, ⟨?_, ?_⟩, rfl⟩
        · show t + r * c ≤ P; omega
        · show 1 ≤ r ∧ 1 ≤ c; omega
      · (repeat' get_elem_tactic_trivial)
        refine ⟨rfl, hW6, .deal t c r, ⟨?_, ?_⟩, rfl⟩
        · show t + c * r ≤ P; rw [Nat.mul_comm]; omega
        · show 1 ≤ c ∧ 1 ≤ r; omega
    | str =>
      dsimp only [nmS]
      obtain ⟨n', W3, hn', hW3, e3⟩ := some_ex R W2 hW2 (by omega) (by omega)
      obtain ⟨n, hn⟩ : ∃ n, n = 1 + n' := ⟨_, rfl⟩
      obtain ⟨a, W4, ha, hW4, e4⟩ := some_ex (2 * n + 1) W3 hW3 (by omega) (by omega)
      (repeat' get_elem_tactic_trivial)
      rw [i1]
      refine call_ret e2 rfl ?_
      (repeat' get_elem_tactic_trivial)
      rw [i2]
      (repeat' get_elem_tactic_trivial)
      refine call_ret e3 rfl ?_
      refine wO_add (i := 1) (j := (n' : Int)) rfl rfl ?_
      rw [show (1 : Int) + (n' : Int) = (n : Int) by omega]
      (repeat' get_elem_tactic_trivial)
      rw [show 2 * (n : Int) + 1 = ((2 * n + 1 : Nat) : Int) by omega]
      refine call_ret e4 rfl ?_
      (repeat' get_elem_tactic_trivial)
      rw [show (40 : Int).toNat = 40 from rfl]
      refine wpS.impN (fun c1 => ∃ (a' : Nat) (x14 : Option (Bool × D)), a' ≤ 2 * n + 60 ∧ c1 = ⟨[some (false, .deal), some (false, nD P), some (false, namesD), some (false, .str "stride"), none, some (false, nD t), some (false, nD R), none, none, none, none, none, some (false, nD n), some (false, nD a'), x14, none], W4⟩) ?_ (fun c1 h => ?_)
      · refine for_rng0 40 (fun j c => ∃ (a' : Nat) (x14 : Option (Bool × D)), a' ≤ 2 * n + j ∧ c = ⟨[some (false, .deal), some (false, nD P), some (false, namesD), some (false, .str "stride"), none, some (false, nD t), some (false, nD R), none, none, none, none, none, some (false, nD n), some (false, nD a'), x14, none], W4⟩) ⟨a, none, by omega, rfl⟩ (fun j c hj hI => ?_) (fun c hI => ?_)
        · obtain ⟨a', x14, ha', rfl⟩ := hI
          (repeat' get_elem_tactic_trivial)
          refine call_ret (law_divisor_eq a' n W4) rfl ?_
          (repeat' get_elem_tactic_trivial)
          refine onBl_d (fun g1 => ?_) (fun g1 => ?_)
          · (repeat' get_elem_tactic_trivial)
            exact ⟨a', _, by omega, rfl⟩
          · (repeat' get_elem_tactic_trivial)
            exact ⟨a' + 1, some (false, nD j), by omega, rfl⟩
        · obtain ⟨a', x14, ha', rfl⟩ := hI
          exact ⟨a', x14, by omega, rfl⟩
      · obtain ⟨a', x14, ha', rfl⟩ := h
        (repeat' get_elem_tactic_trivial)
        refine call_ret (law_divisor_eq a' n W4) rfl ?_
        (repeat' get_elem_tactic_trivial)
        refine onBl_d (fun g1 => ?_) (fun g1 => ?_)
        · (repeat' get_elem_tactic_trivial)
          refine ⟨rfl, hW4, .str t n a', ⟨?_, ?_⟩, rfl⟩
          · show t + n ≤ P; omega
          · show 1 ≤ n ∧ a' ≤ 2 * P + 100 ∧ Nat.gcd n a' = 1
            refine ⟨by omega, by omega, ?_⟩
            rw [Nat.gcd_comm]
            omega
        · (repeat' get_elem_tactic_trivial)
          refine ⟨rfl, hW4, .str t n 1, ⟨?_, ?_⟩, rfl⟩
          · show t + n ≤ P; omega
          · show 1 ≤ n ∧ 1 ≤ 2 * P + 100 ∧ Nat.gcd n 1 = 1
            exact ⟨by omega, by omega, Nat.gcd_one_right n⟩
end DL.K56
namespace DL.K56
open PySem PySem.Spec PyProof.Rows L2 DL
local macro_rules | `(tactic| get_elem_tactic_trivial) => `(tactic| first
  | ((with_reducible show wpC (tgUnl _ _ _ _) _); first | refine wC_unl rfl rfl ?_)
  | ((with_reducible refine t_M ?_); refine tM_i rfl (by repeat (first | with_reducible exact set_0 | with_reducible apply set_s)) ?_)
  | ((with_reducible show wpS (sApp _ _ _) _); first | refine wS_app rfl ?_)
  | ((with_reducible show appK _ _ _ _ _); first | refine app_st (by first | exact st_nb | exact fr_nb) rfl (by first | omega | (simp <;> omega)) (by repeat (first | with_reducible exact set_0 | with_reducible apply set_s)) ?_ | fail)
  | ((with_reducible show ownK _ _ _); first | refine own_i rfl ?_)
  | ((with_reducible show wpS (sAppPop _ _ _ _) _); first | refine wS_appPop rfl rfl ?_) | fail)
local macro_rules | `(tactic| get_elem_tactic_trivial) => `(tactic| first
  | with_reducible refine wS_drop ?_
  | with_reducible refine wS_retN ?_
  | with_reducible refine wS_brk ?_
  | with_reducible refine wS_cnt ?_
  | ((with_reducible show par3K _ _ _ _ _ _); first | refine par3_st (lt_of_ble rfl) (lt_of_ble rfl) (lt_of_ble rfl) (by repeat (first | with_reducible exact set_0 | with_reducible apply set_s)) (by repeat (first | with_reducible exact set_0 | with_reducible apply set_s)) (by repeat (first | with_reducible exact set_0 | with_reducible apply set_s)) ?_)
  | ((with_reducible show wpC (tgTup _ _ _ _) _); first | refine wC_tup rfl rfl ?_) | fail)
local macro_rules | `(tactic| get_elem_tactic_trivial) => `(tactic| first
  | with_reducible refine wS_asg ?_
  | with_reducible refine wC_cons ?_
  | with_reducible refine wC_nil ?_
  | with_reducible refine wS_putI ?_
  | with_reducible refine wS_swapI ?_
  | with_reducible refine swap_i ?_ | fail)
local macro_rules | `(tactic| get_elem_tactic_trivial) => `(tactic| first
  | with_reducible refine wO_rep_non ?_
  | ((with_reducible show wpO (gRep0 _) _); first | refine wO_rep_bl rfl ?_)
  | with_reducible refine wO_all ?_
  | with_reducible refine wO_any ?_
  | with_reducible refine wS_parK ?_
  | with_reducible refine wS_par3 ?_ | fail)
local macro_rules | `(tactic| get_elem_tactic_trivial) => `(tactic| first
  | ((with_reducible show wpO (gMin2 _ _) _); first | refine wO_min2 rfl rfl ?_)
  | ((with_reducible show wpO (gIx _ _) _); first | refine wO_ix rfl rfl (by first | omega | with_reducible assumption) ?_ | refine wO_ix_last rfl rfl (by first | with_reducible assumption | simp) ?_ | refine wO_ixi rfl rfl (by first | omega | with_reducible assumption) ?_ | refine wO_ixl rfl ?_)
  | ((with_reducible show wpO (gErrIs _ _) _); first | refine wO_errIs rfl ?_)
  | ((with_reducible show wpO (gIsi _ _) _); first | refine wO_isi rfl ?_)
  | ((with_reducible show wpO (gSl _ _ _) _); first | refine wO_slL rfl ?_ | refine wO_slT rfl ?_)
  | ((with_reducible show wpO (gRev _) _); first | refine wO_revL rfl ?_ | refine wO_revT rfl ?_) | fail)
local macro_rules | `(tactic| get_elem_tactic_trivial) => `(tactic| first
  | ((with_reducible show wpO (gLen _) _); first | refine wO_lenm rfl ?_ | refine wO_len rfl ?_)
  | ((with_reducible show wpO (gList _) _); first | refine wO_list rfl ?_)
  | ((with_reducible show wpO (gTuple _) _); first | refine wO_tuple rfl ?_)
  | ((with_reducible show wpO (gInt _) _); first | refine wO_int rfl ?_)
  | ((with_reducible show wpO (gAbs _) _); first | refine wO_abs rfl ?_)
  | ((with_reducible show wpO (gMax2 _ _) _); first | refine wO_max2 rfl rfl ?_) | fail)
local macro_rules | `(tactic| get_elem_tactic_trivial) => `(tactic| first
  | ((with_reducible show wpO (gGe _ _) _); first | refine wO_ge rfl rfl ?_)
  | ((with_reducible show wpO (gEq _ _) _); first | refine wO_eqI rfl rfl ?_ | refine wO_eqB rfl rfl ?_ | refine wO_eqSt (tx_of _).ok (tx_of _).ok (by decide) ?_ | refine wO_eqSf (tx_of _).ok (tx_of _).ok (by decide) ?_ | fail)
  | ((with_reducible show wpO (gNe _ _) _); first | refine wO_neI rfl rfl ?_ | refine wO_neB rfl rfl ?_)
  | with_reducible refine wO_isN ?_
  | with_reducible refine wO_notN ?_
  | ((with_reducible show wpO (gIsB _ _) _); first | refine wO_isB rfl rfl ?_) | fail)
local macro_rules | `(tactic| get_elem_tactic_trivial) => `(tactic| first
  | ((with_reducible show wpO (gMul _ _) _); first | refine wO_mul rfl rfl (mulOk_small (by omega)) ?_ | refine wO_mul rfl rfl (mulOk_r (by omega)) ?_ | refine wO_mul rfl rfl (by with_reducible assumption) ?_ | fail)
  | ((with_reducible show wpO (gFdiv _ _) _); first | refine wO_fdiv rfl rfl (fdivOk_small (by omega)) ?_ | refine wO_fdiv rfl rfl (by first | with_reducible assumption | rfl) ?_ | fail)
  | ((with_reducible show wpO (gMod _ _) _); first | refine wO_mod rfl rfl (by first | omega | with_reducible assumption) ?_ | fail)
  | ((with_reducible show wpO (gLt _ _) _); first | refine wO_lt rfl rfl ?_)
  | ((with_reducible show wpO (gLe _ _) _); first | refine wO_le rfl rfl ?_)
  | ((with_reducible show wpO (gGt _ _) _); first | refine wO_gt rfl rfl ?_) | fail)
local macro_rules | `(tactic| get_elem_tactic_trivial) => `(tactic| first
  | ((with_reducible show lenB _ _); first | refine lenB_i (by first | omega | (simp <;> omega)) ?_ | fail)
  | ((with_reducible show in62 _ _); first | refine in62_i (by first | omega | with_reducible assumption) (by first | omega | with_reducible assumption) ?_ | fail)
  | ((with_reducible show inM _ _); first | refine inM_i (by first | omega | with_reducible assumption) (by first | omega | with_reducible assumption) ?_ | fail)
  | ((with_reducible show onBl _ _ _); first | with_reducible refine onBl_t ?_ | with_reducible refine onBl_f ?_ | with_reducible refine onBl_nt ?_ | with_reducible refine onBl_nf ?_ | with_reducible refine onBl_dt (by first | omega | with_reducible assumption) ?_ | with_reducible refine onBl_df (by first | omega | with_reducible assumption) ?_ | with_reducible refine onBl_ndt (by first | omega | with_reducible assumption) ?_ | with_reducible refine onBl_ndf (by first | omega | with_reducible assumption) ?_ | fail)
  | ((with_reducible show wpO (gAdd _ _) _); first | refine wO_add rfl rfl ?_ | refine wO_catT rfl rfl (by first | omega | (simp <;> omega)) ?_ | refine wO_catL rfl rfl (by first | omega | (simp <;> omega)) ?_ | refine wO_catT rfl rfl ?_ ?_ | refine wO_catL rfl rfl ?_ ?_)
  | ((with_reducible show wpO (gSubI _ _) _); first | refine wO_sub rfl rfl ?_) | fail)
local macro_rules | `(tactic| get_elem_tactic_trivial) => `(tactic| first
  | ((with_reducible show lstK _ _); first | refine lst_i ?_)
  | ((with_reducible show itK _ _ _ _); first | refine it_seq st_nb rfl ?_ | refine it_seq fr_nb rfl ?_)
  | ((with_reducible show enK _ _ _); first | refine en_seq rfl ?_)
  | ((with_reducible show isBl _ _); first | refine isBl_i rfl ?_)
  | ((with_reducible show isInt _ _); first | refine isInt_i rfl ?_)
  | ((with_reducible show isTru _ _); first | refine isTru_i rfl ?_) | fail)
local macro_rules | `(tactic| get_elem_tactic_trivial) => `(tactic| first
  | with_reducible refine wA_zip ?_
  | with_reducible refine wE_lm ?_
  | with_reducible refine wE_dK0 ?_
  | with_reducible refine wE_dT0 ?_
  | with_reducible refine wA_R3 ?_
  | ((with_reducible show zipK _ _ _); first | refine zip_l ?_ | refine zip_t ?_ | refine zip_lt ?_) | fail)
local macro_rules | `(tactic| get_elem_tactic_trivial) => `(tactic| first
  | with_reducible refine wS_nil ?_
  | with_reducible refine wS_for ?_
  | with_reducible refine wA_it ?_
  | with_reducible refine wA_en ?_
  | with_reducible refine wA_R1 ?_
  | with_reducible refine wA_R2 ?_ | fail)
local macro_rules | `(tactic| get_elem_tactic_trivial) => `(tactic| first
  | with_reducible refine wL_el ?_
  | with_reducible refine wL_cl ?_
  | with_reducible refine wV_none ?_
  | with_reducible refine wV_some ?_
  | with_reducible refine And.intro st_nb ?_
  | with_reducible refine And.intro fr_nb ?_ | fail)
local macro_rules | `(tactic| get_elem_tactic_trivial) => `(tactic| first
  | with_reducible refine wE_callK2 ?_
  | with_reducible refine wE_sl ?_
  | with_reducible refine wE_LRg ?_
  | with_reducible refine wE_TRg ?_
  | with_reducible refine wE_lc ?_
  | with_reducible refine wE_lcN ?_ | fail)
local macro_rules | `(tactic| get_elem_tactic_trivial) => `(tactic| first
  | with_reducible refine wE_tru ?_
  | with_reducible refine wE_if ?_
  | with_reducible refine wE_tup ?_
  | with_reducible refine wE_lst ?_
  | with_reducible refine wE_neg ?_
  | with_reducible refine wE_ev3 ?_ | fail)
local macro_rules | `(tactic| get_elem_tactic_trivial) => `(tactic| first
  | ((with_reducible refine p_Mf ?_); refine pM_f rfl (by repeat (first | with_reducible exact set_0 | with_reducible apply set_s)) ?_)
  | with_reducible refine wE_ev1 ?_
  | with_reducible refine wE_ev2 ?_
  | with_reducible refine wE_and ?_
  | with_reducible refine wE_or ?_
  | with_reducible refine wE_not ?_ | fail)
local macro_rules | `(tactic| get_elem_tactic_trivial) => `(tactic| first
  | with_reducible refine wA_nil ?_
  | with_reducible refine wE_evC ?_
  | ((with_reducible refine v_M ?_); refine vM_a rfl (by repeat (first | with_reducible exact set_0 | with_reducible apply set_s)) ?_)
  | ((with_reducible refine b_M ?_); refine bM_i rfl ?_)
  | ((with_reducible refine m_M ?_); first | refine mM_s rfl ?_ | refine mM_o rfl (by repeat (first | with_reducible exact set_0 | with_reducible apply set_s)) ?_)
  | ((with_reducible refine p_Ms ?_); refine pM_s rfl (by repeat (first | with_reducible exact set_0 | with_reducible apply set_s)) ?_) | fail)
local macro_rules | `(tactic| get_elem_tactic_trivial) => `(tactic| first
  | with_reducible refine wS_if ?_
  | with_reducible refine wS_ret ?_
  | with_reducible refine ret_st ?_
  | with_reducible refine ret_fr ?_
  | with_reducible refine wE_call ?_
  | with_reducible refine wA_cons ?_ | fail)
local macro_rules | `(tactic| get_elem_tactic_trivial) => `(tactic| first
  | with_reducible refine wE_errAt ?_
  | ((with_reducible show errK _ _ _ _); first | refine err_i rfl ?_)
  | ((with_reducible show tryK _ _ _ _ _ _); first | refine try_yes rfl rfl (by repeat (first | with_reducible exact set_0 | with_reducible apply set_s)) ?_ | refine try_no rfl ?_)
  | ((with_reducible show try0K _ _ _ _ _); first | refine try0_yes rfl ?_ | refine try0_no rfl ?_)
  | with_reducible refine wS_seq ?_
  | with_reducible refine wS_set ?_ | fail)
local macro_rules | `(tactic| get_elem_tactic_trivial) => `(tactic| first
  | with_reducible refine wS_raise ?_
  | with_reducible refine raise_st ?_
  | with_reducible refine raise_fr ?_
  | with_reducible refine wS_try ?_
  | with_reducible refine wS_try0 ?_
  | with_reducible refine wE_ref ?_ | fail)
/-! ### places led, there and back -/
theorem sw_big {p : Nat} (h : p ≤ 2000000000000000000) : ∃ x : Str, gRep (nD p) = some (.st, .str x) ∧ gNe (.str x) (.str x) = some (.st, .bl false) ∧ gEq (.str x) (.str x) = some (.st, .bl true) := sw_rep (sw_natP (m := p) (p := 61) (by omega) (by omega)) (by omega) (by omega)
theorem okM_back {P : Nat} {ms : List Mv} (h : OkM P ms) : OkM P (ms.reverse.map un) := ⟨fun m hm => by
    obtain ⟨m0, h1, rfl⟩ := List.mem_map.mp hm
    have h2 := h.1 m0 (List.mem_reverse.mp h1)
    exact und_ok h2 (und_un h2), h.2.1, by rw [List.length_map, List.length_reverse]; exact h.2.2⟩
theorem led_right_eq (P : Nat) (ms : List Mv) (p : Nat) (W : Wd) (h : OkM P ms) (hp : p < P) : F__law_led_right [nD P, .lst (ms.map (mvS false)), .tup ((ms.reverse.map un).map (mvS false)), nD p] W = .ret false (.bl true) W := by
  have e1 := law_led_eq true P ms p W h hp
  have e2 := place_after_eq true (fun _ => false) P ms p W h hp
  have hl := led_lt ms p h.1 hp
  have e3 := place_after_eq false (fun _ => false) P (ms.reverse.map un) (led ms p) W (okM_back h) hl
  have hb := led_back un ms p (P := P) (fun m hm => ⟨h.1 m hm, und_un (h.1 m hm)⟩)
  rw [hb] at e3
  have hP := h.2.1
  obtain ⟨z, z1, z2, z3⟩ := sw_big (p := led ms p) (by omega)
  obtain ⟨y, y1, y2, y3⟩ := sw_big (p := p) (by omega)
  refine ret_of ?_
  unfold F__law_led_right f__law_led_right
  refine wF_run rfl (by repeat (first | with_reducible exact st_0 | with_reducible apply st_d | with_reducible apply st_n)) ?_
  (repeat' get_elem_tactic_trivial)
  refine call_ret e1 rfl ?_
  (repeat' get_elem_tactic_trivial)
  refine call_ret e2 rfl ?_
  refine wO_some z1 ?_
  (repeat' get_elem_tactic_trivial)
  refine wO_some z1 ?_
  refine wO_some z2 ?_
  (repeat' get_elem_tactic_trivial)
  refine call_ret e3 rfl ?_
  refine wO_some y1 ?_
  (repeat' get_elem_tactic_trivial)
  refine wO_some y1 ?_
  refine wO_some y3 ?_
  (repeat' get_elem_tactic_trivial)
  exact ⟨rfl, rfl, rfl⟩
/-! ### what is no place -/
theorem rep_0D : ∃ x : Str, gRep (.int 0) = some (.st, .str x) ∧ x = "0" := by
  refine ⟨_, rfl, ?_⟩
  rfl
theorem far_exc (P : Nat) (d : D) (W : Wd) (hP : P ≤ 1000000000000000000) : F_place_after [nD P, .lst [.tup [.str "reverse", .int 0, .int ((P : Int) + 1)]], d] W = .exc (0, some (.int 0)) W := by
  have e1 : F_checked_moves [nD P, .lst [.tup [.str "reverse", .int 0, .int ((P : Int) + 1)]]] W = .exc (0, some (.int 0)) W := by
    refine exc_of ?_
    unfold F_checked_moves f_checked_moves
    refine wF_run rfl (by repeat (first | with_reducible exact st_0 | with_reducible apply st_d | with_reducible apply st_n)) ?_
    (repeat' get_elem_tactic_trivial)
    refine call_ret (is_sequence_eq (.lst [.tup [.str "reverse", .int 0, .int ((P : Int) + 1)]]) W rfl) rfl ?_
    dsimp only [isSeqD]
    (repeat' get_elem_tactic_trivial)
    unfold enumD
    refine for_cons ?_
    (repeat' get_elem_tactic_trivial)
    refine call_ret (is_move_far P W hP) rfl ?_
    (repeat' get_elem_tactic_trivial)
    exact ⟨rfl, rfl⟩
  refine exc_of ?_
  unfold F_place_after f_place_after
  refine wF_run rfl (by repeat (first | with_reducible exact st_0 | with_reducible apply st_d | with_reducible apply st_n)) ?_
  (repeat' get_elem_tactic_trivial)
  refine call_exc e1 rfl ?_
  exact ⟨rfl, rfl⟩
theorem ne_0 : gNe (.str "0") (.str "0") = some (.st, .bl false) := by unfold gNe; rw [eqD_str (tx_of "0")]; rfl
theorem eq_0 : gEq (.str "0") (.str "0") = some (.st, .bl true) := by unfold gEq; rw [eqD_str (tx_of "0")]; rfl
theorem law_refused_eq (P : Nat) (bs : Mv → Bool) (ms : List Mv) (d : D) (W : Wd) (h : OkM P ms) (h1 : okD d = true) (h2 : isIxD (P : Int) d = false) (hn : noErr d = true) : F__law_refused [nD P, .lst (ms.map fun m => mvS (bs m) m), d] W = .ret false (.bl true) W := by
  have e1 := far_exc P d W h.2.1
  have e2 := place_after_no true bs P ms d W h h1 h2
  obtain ⟨x, x1, rfl⟩ := rep_0D
  have hnm : noErrL (ms.map fun m => mvS (bs m) m) = true := noErrL_map fun m _ => by
    cases bs m <;> cases m <;> simp [mvS, sqD, nD]
  refine ret_of ?_
  unfold F__law_refused f__law_refused
  refine wF_run rfl (by repeat (first | with_reducible exact st_0 | with_reducible apply st_d | with_reducible apply st_n)) ?_
  (repeat' get_elem_tactic_trivial)
  refine call_exc e1 rfl ?_
  (repeat' get_elem_tactic_trivial)
  refine wO_some x1 ?_
  (repeat' get_elem_tactic_trivial)
  refine wO_some ne_0 ?_
  (repeat' get_elem_tactic_trivial)
  refine ⟨by simp [hn, hnm, nD], ?_⟩
  dsimp only [List.set_cons_succ, List.set_cons_zero]
  (repeat' get_elem_tactic_trivial)
  refine call_exc e2 rfl ?_
  (repeat' get_elem_tactic_trivial)
  refine wO_some x1 ?_
  (repeat' get_elem_tactic_trivial)
  exact ⟨by simp, rfl, rfl, rfl⟩
end DL.K56
namespace DL.K56
open PySem PySem.Spec PyProof.Rows L2 DL
local macro_rules | `(tactic| get_elem_tactic_trivial) => `(tactic| first
  | ((with_reducible show wpC (tgUnl _ _ _ _) _); first | refine wC_unl rfl rfl ?_)
  | ((with_reducible refine t_M ?_); refine tM_i rfl (by repeat (first | with_reducible exact set_0 | with_reducible apply set_s)) ?_)
  | ((with_reducible show wpS (sApp _ _ _) _); first | refine wS_app rfl ?_)
  | ((with_reducible show appK _ _ _ _ _); first | refine app_st (by first | exact st_nb | exact fr_nb) rfl (by first | omega | (simp <;> omega)) (by repeat (first | with_reducible exact set_0 | with_reducible apply set_s)) ?_ | fail)
  | ((with_reducible show ownK _ _ _); first | refine own_i rfl ?_)
  | ((with_reducible show wpS (sAppPop _ _ _ _) _); first | refine wS_appPop rfl rfl ?_) | fail)
local macro_rules | `(tactic| get_elem_tactic_trivial) => `(tactic| first
  | with_reducible refine wS_drop ?_
  | with_reducible refine wS_retN ?_
  | with_reducible refine wS_brk ?_
  | with_reducible refine wS_cnt ?_
  | ((with_reducible show par3K _ _ _ _ _ _); first | refine par3_st (lt_of_ble rfl) (lt_of_ble rfl) (lt_of_ble rfl) (by repeat (first | with_reducible exact set_0 | with_reducible apply set_s)) (by repeat (first | with_reducible exact set_0 | with_reducible apply set_s)) (by repeat (first | with_reducible exact set_0 | with_reducible apply set_s)) ?_)
  | ((with_reducible show wpC (tgTup _ _ _ _) _); first | refine wC_tup rfl rfl ?_) | fail)
local macro_rules | `(tactic| get_elem_tactic_trivial) => `(tactic| first
  | with_reducible refine wS_asg ?_
  | with_reducible refine wC_cons ?_
  | with_reducible refine wC_nil ?_
  | with_reducible refine wS_putI ?_
  | with_reducible refine wS_swapI ?_
  | with_reducible refine swap_i ?_ | fail)
local macro_rules | `(tactic| get_elem_tactic_trivial) => `(tactic| first
  | with_reducible refine wO_rep_non ?_
  | ((with_reducible show wpO (gRep0 _) _); first | refine wO_rep_bl rfl ?_)
  | with_reducible refine wO_all ?_
  | with_reducible refine wO_any ?_
  | with_reducible refine wS_parK ?_
  | with_reducible refine wS_par3 ?_ | fail)
local macro_rules | `(tactic| get_elem_tactic_trivial) => `(tactic| first
  | ((with_reducible show wpO (gMin2 _ _) _); first | refine wO_min2 rfl rfl ?_)
  | ((with_reducible show wpO (gIx _ _) _); first | refine wO_ix rfl rfl (by first | omega | with_reducible assumption) ?_ | refine wO_ix_last rfl rfl (by first | with_reducible assumption | simp) ?_ | refine wO_ixi rfl rfl (by first | omega | with_reducible assumption) ?_ | refine wO_ixl rfl ?_)
  | ((with_reducible show wpO (gErrIs _ _) _); first | refine wO_errIs rfl ?_)
  | ((with_reducible show wpO (gIsi _ _) _); first | refine wO_isi rfl ?_)
  | ((with_reducible show wpO (gSl _ _ _) _); first | refine wO_slL rfl ?_ | refine wO_slT rfl ?_)
  | ((with_reducible show wpO (gRev _) _); first | refine wO_revL rfl ?_ | refine wO_revT rfl ?_) | fail)
local macro_rules | `(tactic| get_elem_tactic_trivial) => `(tactic| first
  | ((with_reducible show wpO (gLen _) _); first | refine wO_lenm rfl ?_ | refine wO_len rfl ?_)
  | ((with_reducible show wpO (gList _) _); first | refine wO_list rfl ?_)
  | ((with_reducible show wpO (gTuple _) _); first | refine wO_tuple rfl ?_)
  | ((with_reducible show wpO (gInt _) _); first | refine wO_int rfl ?_)
  | ((with_reducible show wpO (gAbs _) _); first | refine wO_abs rfl ?_)
  | ((with_reducible show wpO (gMax2 _ _) _); first | refine wO_max2 rfl rfl ?_) | fail)
local macro_rules | `(tactic| get_elem_tactic_trivial) => `(tactic| first
  | ((with_reducible show wpO (gGe _ _) _); first | refine wO_ge rfl rfl ?_)
  | ((with_reducible show wpO (gEq _ _) _); first | refine wO_eqI rfl rfl ?_ | refine wO_eqB rfl rfl ?_ | refine wO_eqSt (tx_of _).ok (tx_of _).ok (by decide) ?_ | refine wO_eqSf (tx_of _).ok (tx_of _).ok (by decide) ?_ | fail)
  | ((with_reducible show wpO (gNe _ _) _); first | refine wO_neI rfl rfl ?_ | refine wO_neB rfl rfl ?_)
  | with_reducible refine wO_isN ?_
  | with_reducible refine wO_notN ?_
  | ((with_reducible show wpO (gIsB _ _) _); first | refine wO_isB rfl rfl ?_) | fail)
local macro_rules | `(tactic| get_elem_tactic_trivial) => `(tactic| first
  | ((with_reducible show wpO (gMul _ _) _); first | refine wO_mul rfl rfl (mulOk_small (by omega)) ?_ | refine wO_mul rfl rfl (mulOk_r (by omega)) ?_ | refine wO_mul rfl rfl (by with_reducible assumption) ?_ | fail)
  | ((with_reducible show wpO (gFdiv _ _) _); first | refine wO_fdiv rfl rfl (fdivOk_small (by omega)) ?_ | refine wO_fdiv rfl rfl (by first | with_reducible assumption | rfl) ?_ | fail)
  | ((with_reducible show wpO (gMod _ _) _); first | refine wO_mod rfl rfl (by first | omega | with_reducible assumption) ?_ | fail)
  | ((with_reducible show wpO (gLt _ _) _); first | refine wO_lt rfl rfl ?_)
  | ((with_reducible show wpO (gLe _ _) _); first | refine wO_le rfl rfl ?_)
  | ((with_reducible show wpO (gGt _ _) _); first | refine wO_gt rfl rfl ?_) | fail)
local macro_rules | `(tactic| get_elem_tactic_trivial) => `(tactic| first
  | ((with_reducible show lenB _ _); first | refine lenB_i (by first | omega | (simp <;> omega)) ?_ | fail)
  | ((with_reducible show in62 _ _); first | refine in62_i (by first | omega | with_reducible assumption) (by first | omega | with_reducible assumption) ?_ | fail)
  | ((with_reducible show inM _ _); first | refine inM_i (by first | omega | with_reducible assumption) (by first | omega | with_reducible assumption) ?_ | fail)
  | ((with_reducible show onBl _ _ _); first | with_reducible refine onBl_t ?_ | with_reducible refine onBl_f ?_ | with_reducible refine onBl_nt ?_ | with_reducible refine onBl_nf ?_ | with_reducible refine onBl_dt (by first | omega | with_reducible assumption) ?_ | with_reducible refine onBl_df (by first | omega | with_reducible assumption) ?_ | with_reducible refine onBl_ndt (by first | omega | with_reducible assumption) ?_ | with_reducible refine onBl_ndf (by first | omega | with_reducible assumption) ?_ | fail)
  | ((with_reducible show wpO (gAdd _ _) _); first | refine wO_add rfl rfl ?_ | refine wO_catT rfl rfl (by first | omega | (simp <;> omega)) ?_ | refine wO_catL rfl rfl (by first | omega | (simp <;> omega)) ?_ | refine wO_catT rfl rfl ?_ ?_ | refine wO_catL rfl rfl ?_ ?_)
  | ((with_reducible show wpO (gSubI _ _) _); first | refine wO_sub rfl rfl ?_) | fail)
local macro_rules | `(tactic| get_elem_tactic_trivial) => `(tactic| first
  | ((with_reducible show lstK _ _); first | refine lst_i ?_)
  | ((with_reducible show itK _ _ _ _); first | refine it_seq st_nb rfl ?_ | refine it_seq fr_nb rfl ?_)
  | ((with_reducible show enK _ _ _); first | refine en_seq rfl ?_)
  | ((with_reducible show isBl _ _); first | refine isBl_i rfl ?_)
  | ((with_reducible show isInt _ _); first | refine isInt_i rfl ?_)
  | ((with_reducible show isTru _ _); first | refine isTru_i rfl ?_) | fail)
local macro_rules | `(tactic| get_elem_tactic_trivial) => `(tactic| first
  | with_reducible refine wA_zip ?_
  | with_reducible refine wE_lm ?_
  | with_reducible refine wE_dK0 ?_
  | with_reducible refine wE_dT0 ?_
  | with_reducible refine wA_R3 ?_
  | ((with_reducible show zipK _ _ _); first | refine zip_l ?_ | refine zip_t ?_ | refine zip_lt ?_) | fail)
local macro_rules | `(tactic| get_elem_tactic_trivial) => `(tactic| first
  | with_reducible refine wS_nil ?_
  | with_reducible refine wS_for ?_
  | with_reducible refine wA_it ?_
  | with_reducible refine wA_en ?_
  | with_reducible refine wA_R1 ?_
  | with_reducible refine wA_R2 ?_ | fail)
local macro_rules | `(tactic| get_elem_tactic_trivial) => `(tactic| first
  | with_reducible refine wL_el ?_
  | with_reducible refine wL_cl ?_
  | with_reducible refine wV_none ?_
  | with_reducible refine wV_some ?_
  | with_reducible refine And.intro st_nb ?_
  | with_reducible refine And.intro fr_nb ?_ | fail)
local macro_rules | `(tactic| get_elem_tactic_trivial) => `(tactic| first
  | with_reducible refine wE_callK2 ?_
  | with_reducible refine wE_sl ?_
  | with_reducible refine wE_LRg ?_
  | with_reducible refine wE_TRg ?_
  | with_reducible refine wE_lc ?_
  | with_reducible refine wE_lcN ?_ | fail)
local macro_rules | `(tactic| get_elem_tactic_trivial) => `(tactic| first
  | with_reducible refine wE_tru ?_
  | with_reducible refine wE_if ?_
  | with_reducible refine wE_tup ?_
  | with_reducible refine wE_lst ?_
  | with_reducible refine wE_neg ?_
  | with_reducible refine wE_ev3 ?_ | fail)
local macro_rules | `(tactic| get_elem_tactic_trivial) => `(tactic| first
  | ((with_reducible refine p_Mf ?_); refine pM_f rfl (by repeat (first | with_reducible exact set_0 | with_reducible apply set_s)) ?_)
  | with_reducible refine wE_ev1 ?_
  | with_reducible refine wE_ev2 ?_
  | with_reducible refine wE_and ?_
  | with_reducible refine wE_or ?_
  | with_reducible refine wE_not ?_ | fail)
local macro_rules | `(tactic| get_elem_tactic_trivial) => `(tactic| first
  | with_reducible refine wA_nil ?_
  | with_reducible refine wE_evC ?_
  | ((with_reducible refine v_M ?_); refine vM_a rfl (by repeat (first | with_reducible exact set_0 | with_reducible apply set_s)) ?_)
  | ((with_reducible refine b_M ?_); refine bM_i rfl ?_)
  | ((with_reducible refine m_M ?_); first | refine mM_s rfl ?_ | refine mM_o rfl (by repeat (first | with_reducible exact set_0 | with_reducible apply set_s)) ?_)
  | ((with_reducible refine p_Ms ?_); refine pM_s rfl (by repeat (first | with_reducible exact set_0 | with_reducible apply set_s)) ?_) | fail)
local macro_rules | `(tactic| get_elem_tactic_trivial) => `(tactic| first
  | with_reducible refine wS_if ?_
  | with_reducible refine wS_ret ?_
  | with_reducible refine ret_st ?_
  | with_reducible refine ret_fr ?_
  | with_reducible refine wE_call ?_
  | with_reducible refine wA_cons ?_ | fail)
local macro_rules | `(tactic| get_elem_tactic_trivial) => `(tactic| first
  | with_reducible refine wE_errAt ?_
  | ((with_reducible show errK _ _ _ _); first | refine err_i rfl ?_)
  | ((with_reducible show tryK _ _ _ _ _ _); first | refine try_yes rfl rfl (by repeat (first | with_reducible exact set_0 | with_reducible apply set_s)) ?_ | refine try_no rfl ?_)
  | ((with_reducible show try0K _ _ _ _ _); first | refine try0_yes rfl ?_ | refine try0_no rfl ?_)
  | with_reducible refine wS_seq ?_
  | with_reducible refine wS_set ?_ | fail)
local macro_rules | `(tactic| get_elem_tactic_trivial) => `(tactic| first
  | with_reducible refine wS_raise ?_
  | with_reducible refine raise_st ?_
  | with_reducible refine raise_fr ?_
  | with_reducible refine wS_try ?_
  | with_reducible refine wS_try0 ?_
  | with_reducible refine wE_ref ?_ | fail)
/-- a comprehension each of whose turns draws, the slots within S -/
theorem lc_drawI {Q : QE} {β : Type} {fe : EF} {tgt : D → Cfg → Option Cfg} {vs : List Nat} {r0 : List (Option (Bool × D))} {W : Wd} (f : β → D) (P : β → Prop) (S : List (Option (Bool × D)) → Prop) {ds : List D} (hl : ds.length ≤ 1000000) (h0 : S r0) (hW : WOk1 W)
    (hs : ∀ d ∈ ds, ∀ r W, S r → WOk1 W → wpC (tgt d ⟨wipeR r vs, W⟩) fun c1 => wpE (fe c1) (fun k d' c3 => k ≠ .bo ∧ (∃ y, d' = f y ∧ P y) ∧ ∃ r' W', S r' ∧ WOk1 W' ∧ Cfg.mrg vs ⟨r, W⟩ c3 = ⟨r', W'⟩) fun _ _ => False)
    (hq : ∀ (ys : List β) (r' : List (Option (Bool × D))) (W' : Wd), ys.length = ds.length → (∀ y ∈ ys, P y) → S r' → WOk1 W' → Q .fr (.lst (ys.map f)) ⟨r', W'⟩) : lcM tgt vs (evC (.bl true)) fe Q ds ⟨r0, W⟩ := by
  have key : ∀ (ds : List D) (acc : List D) (r : List (Option (Bool × D))) (W : Wd), acc.length + ds.length ≤ 1000000 → S r → WOk1 W → (∀ d ∈ ds, ∀ r W, S r → WOk1 W → wpC (tgt d ⟨wipeR r vs, W⟩) fun c1 => wpE (fe c1) (fun k d' c3 => k ≠ .bo ∧ (∃ y, d' = f y ∧ P y) ∧ ∃ r' W', S r' ∧ WOk1 W' ∧ Cfg.mrg vs ⟨r, W⟩ c3 = ⟨r', W'⟩) fun _ _ => False) →
      ∃ (ys : List β) (r' : List (Option (Bool × D))) (W' : Wd), goLc tgt vs (evC (.bl true)) fe ds acc ⟨r, W⟩ = .ok (acc ++ ys.map f) ⟨r', W'⟩ ∧ ys.length = ds.length ∧ (∀ y ∈ ys, P y) ∧ S r' ∧ WOk1 W' := by
    intro ds
    induction ds with
    | nil => exact fun acc r W _ h1 h _ => ⟨[], r, W, by simp [goLc], rfl, fun y hy => absurd hy List.not_mem_nil, h1, h⟩
    | cons d ds ih =>
      intro acc r W hl hr0 hW hs
      obtain ⟨c1, e1, q⟩ := hs d List.mem_cons_self r W hr0 hW
      have hr := fun y hy => hs y (List.mem_cons_of_mem _ hy)
      have hwp : Cfg.wipe ⟨r, W⟩ vs = ⟨wipeR r vs, W⟩ := rfl
      cases e3 : fe c1 with
      | exc x W => rw [e3] at q; exact q.h.elim
      | bad => rw [e3] at q; exact q.h.elim
      | ok k d' c3 =>
        rw [e3] at q
        obtain ⟨h1, ⟨y, rfl, hy⟩, r', W', hr', hW', h4⟩ := q.h
        have hb : acc.length < big := by show acc.length < 1000000; simp at hl; omega
        obtain ⟨ys, r2, W2, e4, h5, h6, h7, h8⟩ := ih (acc ++ [f y]) r' W' (by simp at hl ⊢; omega) hr' hW' hr
        refine ⟨y :: ys, r2, W2, ?_, by simp [h5], fun z hz => ?_, h7, h8⟩
        · unfold goLc
          rw [hwp, e1]
          dsimp only [evC]
          rw [e3]
          cases k with
          | bo => exact absurd rfl h1
          | st =>
            dsimp only
            rw [if_pos hb, h4, e4]
            simp
          | fr =>
            dsimp only
            rw [if_pos hb, h4, e4]
            simp
        · rcases List.mem_cons.mp hz with rfl | hz
          · exact hy
          · exact h6 z hz
  obtain ⟨ys, r', W', h1, h2, h3, h4, h5⟩ := key ds [] r0 W (by simpa using hl) h0 hW hs
  exact ⟨_, _, h1, hq ys r' W' h2 h3 h4 h5⟩
/-! ### the law -/
theorem drawW_ok (ns : List Int) (s : Int) : WOk1 (drawW ns s) := by
  refine ⟨?_⟩
  unfold drawW cellsW
  simp only [List.length_reverse]
  refine Nat.le_trans (List.length_filter_le _ _) ?_
  rw [List.length_map, List.length_take]
  omega
theorem sw_row (P : Nat) (f : Nat → Nat) (hP : P ≤ 1000) (hf : ∀ x, x < P → f x < 1000) : Sw 1 10000 (.tup ((List.range P).map fun x => nD (f x))) := by
  have h := sw_tup (k := 0) (n := 4) (ds := (List.range P).map fun x => nD (f x)) fun d hd => by
    obtain ⟨x, hx, rfl⟩ := List.mem_map.mp hd
    exact sw_nat (k := 3) (by have := hf x (List.mem_range.mp hx); omega) (by decide)
  rw [List.length_map, List.length_range] at h
  exact sw_mono h (Nat.le_refl _) (by omega)
theorem zip_und (ms : List Mv) (P : Nat) (h : OkM P ms) : (zipD (ms.map (mvS false)) ((ms.reverse.map un).map (mvS false)).reverse) = ms.map fun m => .tup [mvS false m, mvS false (un m)] := by
  rw [← List.map_reverse, ← List.map_reverse, List.reverse_reverse, List.map_map]
  clear h
  induction ms with
  | nil => rfl
  | cons m ms ih =>
    rw [List.map_cons, List.map_cons, List.map_cons, ← ih]
    rfl
theorem lst_cl (ms : List Mv) : ((ms.map fun m => mvS true m) : List D) = ms.map fun m => D.lst (m.cl.map clD) := by
  refine List.map_congr_left fun m _ => ?_
  rw [mvS_L, mvL_cl]
  rfl
theorem handed_ne (ms : List Mv) : gNe (.lst (ms.map fun m => mvS true m)) (.lst (ms.map fun m => mvS true m)) = some (.st, .bl false) := by
  have e : (ms.map fun m => mvS true m) = (ms.map Mv.cl).map fun cs => D.lst (cs.map clD) := by
    rw [lst_cl, List.map_map]
    rfl
  rw [e]
  have := gNe_of (eqv_lst (eqv_lst eqv_cl)) (by omega) (ms.map Mv.cl) (ms.map Mv.cl)
  rw [decide_eq_true rfl] at this
  exact this
theorem cut_4 (xs : List Mv) : cutD (xs.map (mvS false)) none (some 4) = (xs.take 4).map (mvS false) := by
  by_cases h : 4 ≤ xs.length
  · exact cut_0n' (mvS false) xs 4 h
  · have := cut_0n' (mvS false) xs xs.length (Nat.le_refl _)
    have e : cutD (xs.map (mvS false)) none (some (4 : Int)) = cutD (xs.map (mvS false)) none (some (xs.length : Int)) := by
      unfold cutD
      rw [show (4 : Int) = ((4 : Nat) : Int) from rfl, HT.sIx_nat, HT.sIx_nat, List.length_map, Nat.min_eq_right (by omega), Nat.min_self]
    rw [e, this, List.take_of_length_le (Nat.le_refl _), List.take_of_length_le (by omega)]
theorem sz_pos {m : Mv} {P : Nat} (h : m.ok P) : 0 < m.sz := by
  have h1 := h.2
  cases m with
  | swap t u w v => dsimp only at h1; show 0 < u + w + v; omega
  | turn t n a => exact h1.1
  | rev t n => exact h1
  | deal t r c => exact Nat.mul_pos h1.1 h1.2
  | str t n a => exact h1.1
theorem law_true (ns : List Int) : ∃ W', f_law (lawC 12 (drawW ns 56)) = .ret false (.bl true) W' := by
  suffices hz : wpS (f_law ⟨[none, some (false, .deal), none, none, none, none, none, none, none, none, none, none, none, none], drawW ns 56⟩) ⟨fun _ => False, fun fr d _ => fr = false ∧ d = .bl true, fun _ => False, fun _ => False, fun _ _ => False⟩ by
    have e : lawC 12 (drawW ns 56) = ⟨[none, some (false, .deal), none, none, none, none, none, none, none, none, none, none, none, none], drawW ns 56⟩ := rfl
    rw [e]
    revert hz
    cases f_law ⟨[none, some (false, .deal), none, none, none, none, none, none, none, none, none, none, none, none], drawW ns 56⟩ with
    | nx c => exact fun h => h.h.elim
    | ret fr d W => exact fun h => ⟨W, by obtain ⟨h1, h2⟩ := h.h; rw [h1, h2]⟩
    | brk c => exact fun h => h.h.elim
    | cnt c => exact fun h => h.h.elim
    | exc x W => exact fun h => h.h.elim
    | bad => exact fun h => h.h.elim
  have hW0 := drawW_ok ns 56
  generalize drawW ns 56 = W0 at hW0 ⊢
  obtain ⟨P', W1, hP', hW1, e1⟩ := any_call hW0 30 (by omega) (by omega)
  obtain ⟨P, hP⟩ : ∃ P, P = 1 + P' := ⟨_, rfl⟩
  obtain ⟨n, W2, hn, hW2, e2⟩ := any_call hW1 5 (by omega) (by omega)
  have iP : (1 : Int) + (P' : Int) = (P : Int) := by omega
  unfold f_law
  (repeat' get_elem_tactic_trivial)
  refine call_ret e1 rfl ?_
  refine wO_add (i := 1) (j := (P' : Int)) rfl rfl ?_
  rw [iP]
  (repeat' get_elem_tactic_trivial)
  refine call_ret e2 rfl ?_
  (repeat' get_elem_tactic_trivial)
  rw [Int.toNat_natCast]
  refine lc_drawI (mvS false) (fun m => m.ok P) (fun r => ∃ b, r = [none, some (false, .deal), some (b, namesD), some (false, nD P), none, none, none, none, none, none, none, none, none, none]) (by rw [rngD_0, List.length_map, List.length_range]; omega) ⟨true, rfl⟩ hW2 (fun d hd r W hr hW => ?_) (fun ms r W3 hl hok hr hW3 => ?_)
  · obtain ⟨b, rfl⟩ := hr
    obtain ⟨j, _, rfl⟩ : ∃ j ∈ List.range n, nD j = d := by
      rw [rngD_0] at hd
      exact List.mem_map.mp hd
    obtain ⟨m, W', hm, hW', e⟩ := move_ex P W hW (by omega) (by omega)
    rw [show wipeR [none, some (false, .deal), some (b, namesD), some (false, nD P), none, none, none, none, none, none, none, none, none, none] [12] = [none, some (false, .deal), some (b, namesD), some (false, nD P), none, none, none, none, none, none, none, none, none, none] from rfl]
    cases b <;>
    ((repeat' get_elem_tactic_trivial)
     refine call_ret e rfl ?_
     exact ⟨st_nb, ⟨m, rfl, hm⟩, _, W', ⟨_, rfl⟩, hW', (by (refine mrg_i ?_; repeat (first | exact mrg_nil | refine mrg_in rfl (by first | with_reducible assumption | rfl) ?_ | refine mrg_out rfl ?_)))⟩)
  have hl : ms.length = n := by rw [hl, rngD_0, List.length_map, List.length_range]
  have hO : OkM P ms := ⟨hok, by omega, by omega⟩
  obtain ⟨b, rfl⟩ := hr
  have d1 := law_done_eq P ms W3 hO (by omega)
  have d2 := spread_eq true (fun _ => false) P ms W3 hO (by omega)
  have d3 := spread_eq false (fun _ => true) P ms W3 hO (by omega)
  have d4 := undoing_eq true (fun _ => true) P ms W3 hO
  obtain ⟨z, z1, z2, z3⟩ := sw_rep (sw_row P (led ms) (by omega) (fun x hx => by have := led_lt ms x hO.1 hx; omega)) (by omega) (by omega)
  have hundo : ∀ m ∈ ms, F__law_undone [mvS false m, mvS false (un m)] W3 = .ret false (.bl true) W3 := fun m hm => law_undone_eq m (un m) P W3 (hO.1 m hm) hO.2.1 (und_un (hO.1 m hm))
  have hgl : ∀ m : Mv, gList (mvS false m) = some (.fr, mvS true m) := fun m => by cases m <;> rfl
  (repeat' get_elem_tactic_trivial)
  refine call_ret d1 rfl ?_
  (repeat' get_elem_tactic_trivial)
  refine lc_alleq (mvS false) (mvS true) (by omega) (by repeat (first | with_reducible exact wipe_nil | with_reducible apply wipe_cons | with_reducible exact set_0 | with_reducible apply set_s)) (fun m hm => ?_) ?_
  · (repeat' get_elem_tactic_trivial)
    refine wO_some (hgl m) ?_
    exact ⟨fr_nb, rfl, (by (refine mrg_i ?_; repeat (first | exact mrg_nil | refine mrg_in rfl (by first | with_reducible assumption | rfl) ?_ | refine mrg_out rfl ?_)))⟩
  (repeat' get_elem_tactic_trivial)
  refine call_ret d2 rfl ?_
  refine wO_some z1 ?_
  (repeat' get_elem_tactic_trivial)
  refine wO_some z1 ?_
  refine wO_some z2 ?_
  (repeat' get_elem_tactic_trivial)
  refine call_ret2 d3 rfl rfl rfl rfl ?_
  refine wO_some z1 ?_
  (repeat' get_elem_tactic_trivial)
  refine wO_some z1 ?_
  refine wO_some z2 ?_
  (repeat' get_elem_tactic_trivial)
  refine call_ret d4 rfl ?_
  (repeat' get_elem_tactic_trivial)
  refine onBl_ndf (by simp) ?_
  (repeat' get_elem_tactic_trivial)
  refine lc_alleq (mvS false) (mvS true) (by omega) (by repeat (first | with_reducible exact wipe_nil | with_reducible apply wipe_cons | with_reducible exact set_0 | with_reducible apply set_s)) (fun m hm => ?_) ?_
  · (repeat' get_elem_tactic_trivial)
    refine wO_some (hgl m) ?_
    exact ⟨fr_nb, rfl, (by (refine mrg_i ?_; repeat (first | exact mrg_nil | refine mrg_in rfl (by first | with_reducible assumption | rfl) ?_ | refine mrg_out rfl ?_)))⟩
  refine wO_some (handed_ne ms) ?_
  (repeat' get_elem_tactic_trivial)
  rw [zip_und ms P hO]
  refine lc_alleq (fun m => .tup [mvS false m, mvS false (un m)]) (fun _ => .bl true) (by omega) (by repeat (first | with_reducible exact wipe_nil | with_reducible apply wipe_cons | with_reducible exact set_0 | with_reducible apply set_s)) (fun m hm => ?_) ?_
  · (repeat' get_elem_tactic_trivial)
    refine call_ret (hundo m hm) rfl ?_
    exact ⟨st_nb, rfl, (by (refine mrg_i ?_; repeat (first | exact mrg_nil | refine mrg_in rfl (by first | with_reducible assumption | rfl) ?_ | refine mrg_out rfl ?_)))⟩
  refine wO_all (f := fun _ : Mv => true) (xs := ms) ?_
  rw [show (ms.all fun _ => true) = true from List.all_eq_true.mpr fun _ _ => rfl]
  (repeat' get_elem_tactic_trivial)
  rw [Int.toNat_natCast]
  have d5 := spread_eq true (fun _ => false) P (ms.reverse.map un ++ ms) W3 ⟨fun m hm => by
    rcases List.mem_append.mp hm with hm | hm
    · exact (okM_back hO).1 m hm
    · exact hO.1 m hm, hO.2.1, by rw [List.length_append, List.length_map, List.length_reverse]; omega⟩ (by omega)
  have hid : (List.range P).map (fun p => nD (led (ms.reverse.map un ++ ms) p)) = (List.range P).map nD := by
    refine List.map_congr_left fun p hp => ?_
    rw [led_append, led_forth un ms p (P := P) fun m hm => ⟨hO.1 m hm, und_un (hO.1 m hm)⟩]
  rw [hid] at d5
  refine for_rng0 P (fun j c => ∃ x8, c = ⟨[none, some (false, .deal), some (b, namesD), some (false, nD P), some (false, .lst (ms.map (mvS false))), some (false, .tup ((List.range P).map fun x => nD (led ms x))), some (false, .lst (ms.map (mvS true))), some (false, .tup ((ms.reverse.map un).map (mvS false))), x8, none, none, none, none, none], W3⟩) ⟨none, rfl⟩ (fun j c hj hI => ?_) (fun c hI => ?_)
  · obtain ⟨x8, rfl⟩ := hI
    (repeat' get_elem_tactic_trivial)
    refine call_ret (led_right_eq P ms j W3 hO hj) rfl ?_
    (repeat' get_elem_tactic_trivial)
    refine call_ret (law_led_eq true P ms j W3 hO hj) rfl ?_
    (repeat' get_elem_tactic_trivial)
    refine wO_some (show gIx (.tup ((List.range P).map fun x => nD (led ms x))) (nD j) = some (.st, nD (led ms j)) from ?_) ?_
    · have := ix_tup_nat (e := nD) (xs := (List.range P).map (led ms)) (n := j) 0 (by rw [List.length_map, List.length_range]; exact hj)
      rw [List.map_map] at this
      rw [show ((List.range P).map (led ms)).getD j 0 = led ms j by rw [List.getD_eq_getElem?_getD, List.getElem?_map, List.getElem?_range hj]; rfl] at this
      exact this
    (repeat' get_elem_tactic_trivial)
    exact ⟨_, rfl⟩
  obtain ⟨x8, rfl⟩ := hI
  have d5' : F_spread [nD P, .lst (((ms.reverse.map un).map (mvS false)) ++ ms.map (mvS false))] W3 = .ret false (.tup ((List.range P).map nD)) W3 := by
    rw [← List.map_append]
    exact d5
  have hrn : gNe (.tup ((List.range P).map nD)) (.tup ((List.range P).map nD)) = some (.st, .bl false) := by
    have := gNe_of (eqv_tup eqv_nat) (by omega) (List.range P) (List.range P)
    rw [decide_eq_true rfl] at this
    exact this
  obtain ⟨y9, W4, hy9, hW4, e9⟩ := any_call hW3 9 (by omega) (by omega)
  have hbl : (((ms.reverse.map un).map (mvS false))).length ≤ 1000 := by rw [List.length_map, List.length_map, List.length_reverse]; omega
  generalize hbk : (ms.reverse.map un).map (mvS false) = bk at *
  (repeat' get_elem_tactic_trivial)
  refine call_ret d5' rfl ?_
  (repeat' get_elem_tactic_trivial)
  rw [Int.toNat_natCast, rngD_0]
  refine wO_some hrn ?_
  (repeat' get_elem_tactic_trivial)
  refine call_ret e9 rfl ?_
  (repeat' get_elem_tactic_trivial)
  refine call_of hW4 (by simp) (by simp) (fun d hd W5 hW5 => ?_)
  have hwr : okD d = true ∧ isIxD (P : Int) d = false ∧ noErr d = true := by
    simp only [List.mem_cons, List.not_mem_nil, or_false] at hd
    rcases hd with rfl | rfl | rfl | rfl | rfl | rfl | rfl | rfl
    · exact ⟨rfl, rfl, by simp⟩
    · refine ⟨rfl, ?_, by first | (show noErr (.int _) = true; simp) | simp⟩
      show (decide (0 ≤ (P : Int)) && decide ((P : Int) < (P : Int))) = false
      rw [decide_eq_false (by omega : ¬ (P : Int) < (P : Int)), Bool.and_false]
    · exact ⟨rfl, rfl, by simp⟩
    · exact ⟨rfl, rfl, by simp⟩
    · exact ⟨rfl, rfl, by simp⟩
    · exact ⟨rfl, rfl, by simp⟩
    · refine ⟨rfl, ?_, by first | (show noErr (.int _) = true; simp) | simp⟩
      show (decide (0 ≤ (P : Int) + (y9 : Int)) && decide ((P : Int) + (y9 : Int) < (P : Int))) = false
      rw [decide_eq_false (by omega : ¬ (P : Int) + (y9 : Int) < (P : Int)), Bool.and_false]
    · exact ⟨rfl, rfl, by simp⟩
  have d6 := law_refused_eq P (fun _ => true) ms d W5 hO hwr.1 hwr.2.1 hwr.2.2
  clear hd
  (repeat' get_elem_tactic_trivial)
  refine call_ret d6 rfl ?_
  (repeat' get_elem_tactic_trivial)
  obtain ⟨g1, W6, hg1, hW6, f1⟩ := large_ex 999999999999999998 W5 hW5 (by omega) (by omega)
  obtain ⟨g2, W7, hg2, hW7, f2⟩ := any_call hW6 1000 (by omega) (by omega)
  refine wO_some (k := .st) (d := .int 1000000000000000000) rfl ?_
  (repeat' get_elem_tactic_trivial)
  refine wO_some (k := .st) (d := .int 1000000000000000000) rfl ?_
  (repeat' get_elem_tactic_trivial)
  rw [show (1000000000000000000 : Int) - 2 = ((999999999999999998 : Nat) : Int) from by decide]
  refine call_ret f1 rfl ?_
  (repeat' get_elem_tactic_trivial)
  refine call_ret f2 rfl ?_
  (repeat' get_elem_tactic_trivial)
  refine call_of hW7 (by simp) (by simp) (fun d2 hd2 W8 hW8 => ?_)
  obtain ⟨P2, hp0, hp1, rfl⟩ : ∃ P2 : Nat, 0 < P2 ∧ P2 ≤ 1000000000000000000 ∧ d2 = nD P2 := by
    simp only [List.mem_cons, List.not_mem_nil, or_false] at hd2
    rcases hd2 with rfl | rfl | rfl
    · exact ⟨1000000000000000000, by omega, by omega, rfl⟩
    · exact ⟨2 + g1, by omega, by omega, congrArg D.int (by omega)⟩
    · exact ⟨100 + g2, by omega, by omega, congrArg D.int (by omega)⟩
  clear hd2
  obtain ⟨n3, W9, hn3, hW9, f3⟩ := any_call hW8 15 (by omega) (by omega)
  obtain ⟨n4, hn4⟩ : ∃ n4, n4 = 1 + n3 := ⟨_, rfl⟩
  (repeat' get_elem_tactic_trivial)
  refine call_ret f3 rfl ?_
  refine wO_add (i := 1) (j := (n3 : Int)) rfl rfl ?_
  rw [show (1 : Int) + (n3 : Int) = (n4 : Int) by omega]
  (repeat' get_elem_tactic_trivial)
  rw [Int.toNat_natCast]
  clear hundo d1 d2 d3 d4 d5 d5' hid
  generalize (ms.map (mvS false)) = Z4 at *
  generalize (List.range P).map (fun x => nD (led ms x)) = Z5 at *
  generalize (ms.map (mvS true)) = Z6 at *
  refine lc_drawI (mvS false) (fun m => m.ok P2) (fun r => ∃ b, r = [none, some (false, .deal), some (b, namesD), some (false, nD P2), some (false, .lst Z4), some (false, .tup Z5), some (false, .lst Z6), some (false, .tup bk), x8, some (false, d), none, none, none, none]) (by rw [rngD_0, List.length_map, List.length_range]; omega) ⟨b, rfl⟩ hW9 (fun dd hd r W hr hW => ?_) (fun ms2 r W10 hl2 hok2 hr hW10 => ?_)
  · obtain ⟨b, rfl⟩ := hr
    obtain ⟨j, _, rfl⟩ : ∃ j ∈ List.range n4, nD j = dd := by
      rw [rngD_0] at hd
      exact List.mem_map.mp hd
    obtain ⟨m, W', hm, hW', e⟩ := move_ex P2 W hW (by omega) (by omega)
    rw [show wipeR [none, some (false, .deal), some (b, namesD), some (false, nD P2), some (false, .lst Z4), some (false, .tup Z5), some (false, .lst Z6), some (false, .tup bk), x8, some (false, d), none, none, none, none] [12] = [none, some (false, .deal), some (b, namesD), some (false, nD P2), some (false, .lst Z4), some (false, .tup Z5), some (false, .lst Z6), some (false, .tup bk), x8, some (false, d), none, none, none, none] from rfl]
    cases b <;>
    ((repeat' get_elem_tactic_trivial)
     refine call_ret e rfl ?_
     exact ⟨st_nb, ⟨m, rfl, hm⟩, _, W', ⟨_, rfl⟩, hW', (by (refine mrg_i ?_; repeat (first | exact mrg_nil | refine mrg_in rfl (by first | with_reducible assumption | rfl) ?_ | refine mrg_out rfl ?_)))⟩)
  have hl2 : ms2.length = n4 := by rw [hl2, rngD_0, List.length_map, List.length_range]
  have hO2 : OkM P2 ms2 := ⟨hok2, by omega, by omega⟩
  obtain ⟨b, rfl⟩ := hr
  have c1 := undoing_eq true (fun _ => false) P2 ms2 W10 hO2
  have hundo2 : ∀ m ∈ ms2, F__law_undone [mvS false m, mvS false (un m)] W10 = .ret false (.bl true) W10 := fun m hm => law_undone_eq m (un m) P2 W10 (hO2.1 m hm) hO2.2.1 (und_un (hO2.1 m hm))
  (repeat' get_elem_tactic_trivial)
  refine call_ret2 c1 rfl rfl rfl rfl ?_
  (repeat' get_elem_tactic_trivial)
  refine onBl_ndf (by simp) ?_
  (repeat' get_elem_tactic_trivial)
  rw [zip_und ms2 P2 hO2]
  refine lc_alleq (fun m => .tup [mvS false m, mvS false (un m)]) (fun _ => .bl true) (by omega) (by repeat (first | with_reducible exact wipe_nil | with_reducible apply wipe_cons | with_reducible exact set_0 | with_reducible apply set_s)) (fun m hm => ?_) ?_
  · (repeat' get_elem_tactic_trivial)
    refine call_ret (hundo2 m hm) rfl ?_
    exact ⟨st_nb, rfl, (by (refine mrg_i ?_; repeat (first | exact mrg_nil | refine mrg_in rfl (by first | with_reducible assumption | rfl) ?_ | refine mrg_out rfl ?_)))⟩
  refine wO_all (f := fun _ : Mv => true) (xs := ms2) ?_
  rw [show (ms2.all fun _ => true) = true from List.all_eq_true.mpr fun _ _ => rfl]
  (repeat' get_elem_tactic_trivial)
  rw [show (4 : Int).toNat = 4 from rfl]
  refine lc_draw nD (fun k => k < P2) (by rw [rngD_0, List.length_map, List.length_range]; omega) (by repeat (first | with_reducible exact wipe_nil | with_reducible apply wipe_cons | with_reducible exact set_0 | with_reducible apply set_s)) hW10 (fun dd hd W hW => ?_) (fun ks W11 hk hkP hW11 => ?_)
  · obtain ⟨k, W', hk, hW', e⟩ := large_ex P2 W hW hp0 (by omega)
    obtain ⟨j, _, rfl⟩ : ∃ j ∈ List.range 4, nD j = dd := by
      rw [rngD_0] at hd
      exact List.mem_map.mp hd
    (repeat' get_elem_tactic_trivial)
    refine call_ret e rfl ?_
    exact ⟨st_nb, ⟨k, rfl, hk⟩, W', hW', (by (refine mrg_i ?_; repeat (first | exact mrg_nil | refine mrg_in rfl (by first | with_reducible assumption | rfl) ?_ | refine mrg_out rfl ?_)))⟩
  have hk : ks.length = 4 := by rw [hk]; rfl
  (repeat' get_elem_tactic_trivial)
  rw [cut_4, show [D.int 0, D.int ((P2 : Int) - 1)] ++ ks.map nD = (0 :: (P2 - 1) :: ks).map nD by
    rw [List.map_cons, List.map_cons]
    show D.int 0 :: D.int ((P2 : Int) - 1) :: ks.map nD = _
    rw [show (P2 : Int) - 1 = ((P2 - 1 : Nat) : Int) by omega]
    rfl]
  generalize hb2 : (ms2.reverse.map un).map (mvS false) = bk2 at *
  refine for_inv (mvS false) (ms2.take 4) (fun done rest c => ∃ (qs : List Nat) (x11 : Option (Bool × D)) (W : Wd), WOk1 W ∧ qs.length = 6 + 3 * done.length ∧ (∀ q ∈ qs, q < P2) ∧ c = ⟨[none, some (false, .deal), some (b, namesD), some (false, nD P2), some (false, .lst (ms2.map (mvS false))), some (false, .tup Z5), some (false, .lst Z6), some (false, .tup bk2), x8, some (false, d), some (true, .lst (qs.map nD)), x11, none, none], W⟩)
    ⟨0 :: (P2 - 1) :: ks, none, W11, hW11, by simp [hk], fun q hq => by
      rcases List.mem_cons.mp hq with rfl | hq
      · exact hp0
      rcases List.mem_cons.mp hq with rfl | hq
      · omega
      exact hkP q hq, rfl⟩ (fun done m rest c hx hI => ?_) (fun c hI => ?_)
  · obtain ⟨qs, x11, W, hW, hql, hqP, rfl⟩ := hI
    have hdl : done.length < 4 := by
      have h1 : (ms2.take 4).length ≤ 4 := by rw [List.length_take]; omega
      rw [hx, List.length_append, List.length_cons] at h1
      omega
    have hm : m.ok P2 := hO2.1 m (List.mem_of_mem_take (by rw [hx]; simp))
    have hsp := sz_pos hm
    have h0 := hm.1
    have s1 := law_size_eq m W P2 hm hp1
    obtain ⟨l, W', hl, hW', s2⟩ := large_ex m.sz W hW hsp (by omega)
    (repeat' get_elem_tactic_trivial)
    refine wO_some (gIx_0 m) ?_
    (repeat' get_elem_tactic_trivial)
    refine wO_some (gIx_0 m) ?_
    (repeat' get_elem_tactic_trivial)
    refine call_ret s1 rfl ?_
    (repeat' get_elem_tactic_trivial)
    refine wO_some (gIx_0 m) ?_
    (repeat' get_elem_tactic_trivial)
    refine call_ret s1 rfl ?_
    (repeat' get_elem_tactic_trivial)
    refine call_ret s2 rfl ?_
    (repeat' get_elem_tactic_trivial)
    refine ⟨qs ++ [m.at_, m.at_ + m.sz - 1, m.at_ + l], some (false, mvS false m), W', hW', by simp [hql]; omega, fun q hq => ?_, ?_⟩
    · rcases List.mem_append.mp hq with hq | hq
      · exact hqP q hq
      simp only [List.mem_cons, List.not_mem_nil, or_false] at hq
      rcases hq with rfl | rfl | rfl <;> omega
    · rw [List.map_append]
      show _ = (⟨[none, some (false, .deal), some (b, namesD), some (false, nD P2), some (false, .lst (ms2.map (mvS false))), some (false, .tup Z5), some (false, .lst Z6), some (false, .tup bk2), x8, some (false, d), some (true, .lst (qs.map nD ++ [nD m.at_, nD (m.at_ + m.sz - 1), nD (m.at_ + l)])), some (false, mvS false m), none, none], W'⟩ : Cfg)
      have q1 : nD (m.at_ + m.sz - 1) = D.int ((m.at_ : Int) + (m.sz : Int) - 1) := congrArg D.int (by omega)
      have q2 : nD (m.at_ + l) = D.int ((m.at_ : Int) + (l : Int)) := congrArg D.int (by omega)
      rw [q1, q2]
  obtain ⟨qs, x11, W, hW, hql, hqP, rfl⟩ := hI
  subst hb2
  (repeat' get_elem_tactic_trivial)
  refine for_inv nD qs (fun done rest c => ∃ x8, c = ⟨[none, some (false, .deal), some (b, namesD), some (false, nD P2), some (false, .lst (ms2.map (mvS false))), some (false, .tup Z5), some (false, .lst Z6), some (false, .tup ((ms2.reverse.map un).map (mvS false))), x8, some (false, d), some (false, .lst (qs.map nD)), x11, none, none], W⟩) ⟨x8, rfl⟩ (fun done q rest c hx hI => ?_) (fun c hI => ?_)
  · obtain ⟨x8, rfl⟩ := hI
    (repeat' get_elem_tactic_trivial)
    refine call_ret (led_right_eq P2 ms2 q W hO2 (hqP q (by rw [hx]; simp))) rfl ?_
    (repeat' get_elem_tactic_trivial)
    exact ⟨_, rfl⟩
  obtain ⟨x8, rfl⟩ := hI
  have hq2 : qs.getD 2 default < P2 := by
    rw [List.getD_eq_getElem?_getD, List.getElem?_eq_getElem (show 2 < qs.length by omega)]
    exact hqP _ (List.getElem_mem _)
  obtain ⟨q2, hq2e⟩ : ∃ q2, q2 = qs.getD 2 default := ⟨_, rfl⟩
  rw [← hq2e] at hq2
  have r1 := place_after_eq true (fun _ => false) P2 ms2 q2 W hO2 hq2
  have r2 := law_led_eq true P2 ms2 q2 W hO2 hq2
  have hlt := led_lt ms2 q2 hO2.1 hq2
  obtain ⟨y, y1, y2, y3⟩ := sw_big (p := led ms2 q2) (by omega)
  (repeat' get_elem_tactic_trivial)
  rw [show (2 : Int).toNat = 2 from rfl, ← hq2e]
  (repeat' get_elem_tactic_trivial)
  refine call_ret2 r1 rfl rfl rfl rfl ?_
  refine wO_some y1 ?_
  (repeat' get_elem_tactic_trivial)
  rw [show (2 : Int).toNat = 2 from rfl, ← hq2e]
  (repeat' get_elem_tactic_trivial)
  refine call_ret r2 rfl ?_
  refine wO_some y1 ?_
  refine wO_some y3 ?_
  (repeat' get_elem_tactic_trivial)
  exact ⟨rfl, rfl⟩
end DL.K56
namespace DL.K56
open PySem PySem.Spec PyProof.Rows L2 DL
def top (i : Nat) : Stmt := PySem.Challenge.pw_wheelsandends_k56_whole_where_entries_go.main.body.getD i (.Pass ⟨0, 0, 0, 0⟩)
abbrev st_is_integer : Stmt := top 5
abbrev st_is_number : Stmt := top 6
abbrev st_is_sequence : Stmt := top 7
abbrev st_is_index : Stmt := top 8
abbrev st_divisor : Stmt := top 9
abbrev st_size_of : Stmt := top 12
abbrev st_is_move : Stmt := top 13
abbrev st_checked_moves : Stmt := top 14
abbrev st_moved : Stmt := top 15
abbrev st_led : Stmt := top 16
abbrev st_place_after : Stmt := top 17
abbrev st_spread : Stmt := top 18
abbrev st_inverse : Stmt := top 19
abbrev st_undone : Stmt := top 20
abbrev st_undoing : Stmt := top 21
abbrev st__law_draw : Stmt := top 23
abbrev st__law_any : Stmt := top 24
abbrev st__law_of : Stmt := top 25
abbrev st__law_large : Stmt := top 26
abbrev st__law_some : Stmt := top 27
abbrev st__law_divisor : Stmt := top 28
abbrev st__law_move : Stmt := top 29
abbrev st__law_size : Stmt := top 30
abbrev st__law_goes : Stmt := top 31
abbrev st__law_led : Stmt := top 32
abbrev st__law_done : Stmt := top 33
abbrev st__law_undone : Stmt := top 34
abbrev st__law_refused : Stmt := top 35
abbrev st__law_led_right : Stmt := top 36
abbrev st_law : Stmt := top 37
theorem bt_abs : bootBuiltins "abs" = some (.builtin "abs") := by with_unfolding_all rfl
theorem bt_all : bootBuiltins "all" = some (.builtin "all") := by with_unfolding_all rfl
theorem bt_bool : bootBuiltins "bool" = some (.type "bool") := by with_unfolding_all rfl
theorem bt_int : bootBuiltins "int" = some (.type "int") := by with_unfolding_all rfl
theorem bt_isinstance : bootBuiltins "isinstance" = some (.builtin "isinstance") := by with_unfolding_all rfl
theorem bt_len : bootBuiltins "len" = some (.builtin "len") := by with_unfolding_all rfl
theorem bt_list : bootBuiltins "list" = some (.type "list") := by with_unfolding_all rfl
theorem bt_max : bootBuiltins "max" = some (.builtin "max") := by with_unfolding_all rfl
theorem bt_min : bootBuiltins "min" = some (.builtin "min") := by with_unfolding_all rfl
theorem bt_repr : bootBuiltins "repr" = some (.builtin "repr") := by with_unfolding_all rfl
theorem bt_str : bootBuiltins "str" = some (.type "str") := by with_unfolding_all rfl
theorem bt_tuple : bootBuiltins "tuple" = some (.type "tuple") := by with_unfolding_all rfl
theorem bt_zip : bootBuiltins "zip" = some (.type "zip") := by with_unfolding_all rfl
/-- what the top has written -/
structure Txt (P : Program) (w : World) (K : PySem.W.Frag) (mg : Str → Option Value) where
  A_is_integer : Addr
  c_is_integer : Addr
  D_is_integer : FuncData
  g_is_integer : mg "is_integer" = some (.ref A_is_integer)
  F_is_integer : FunC K "is_integer" st_is_integer A_is_integer D_is_integer c_is_integer
  A_is_number : Addr
  c_is_number : Addr
  D_is_number : FuncData
  g_is_number : mg "is_number" = some (.ref A_is_number)
  F_is_number : FunC K "is_number" st_is_number A_is_number D_is_number c_is_number
  A_is_sequence : Addr
  c_is_sequence : Addr
  D_is_sequence : FuncData
  g_is_sequence : mg "is_sequence" = some (.ref A_is_sequence)
  F_is_sequence : FunC K "is_sequence" st_is_sequence A_is_sequence D_is_sequence c_is_sequence
  A_is_index : Addr
  c_is_index : Addr
  D_is_index : FuncData
  g_is_index : mg "is_index" = some (.ref A_is_index)
  F_is_index : FunC K "is_index" st_is_index A_is_index D_is_index c_is_index
  A_divisor : Addr
  c_divisor : Addr
  D_divisor : FuncData
  g_divisor : mg "divisor" = some (.ref A_divisor)
  F_divisor : FunC K "divisor" st_divisor A_divisor D_divisor c_divisor
  A_size_of : Addr
  c_size_of : Addr
  D_size_of : FuncData
  g_size_of : mg "size_of" = some (.ref A_size_of)
  F_size_of : FunC K "size_of" st_size_of A_size_of D_size_of c_size_of
  A_is_move : Addr
  c_is_move : Addr
  D_is_move : FuncData
  g_is_move : mg "is_move" = some (.ref A_is_move)
  F_is_move : FunC K "is_move" st_is_move A_is_move D_is_move c_is_move
  A_checked_moves : Addr
  c_checked_moves : Addr
  D_checked_moves : FuncData
  g_checked_moves : mg "checked_moves" = some (.ref A_checked_moves)
  F_checked_moves : FunC K "checked_moves" st_checked_moves A_checked_moves D_checked_moves c_checked_moves
  A_moved : Addr
  c_moved : Addr
  D_moved : FuncData
  g_moved : mg "moved" = some (.ref A_moved)
  F_moved : FunC K "moved" st_moved A_moved D_moved c_moved
  A_led : Addr
  c_led : Addr
  D_led : FuncData
  g_led : mg "led" = some (.ref A_led)
  F_led : FunC K "led" st_led A_led D_led c_led
  A_place_after : Addr
  c_place_after : Addr
  D_place_after : FuncData
  g_place_after : mg "place_after" = some (.ref A_place_after)
  F_place_after : FunC K "place_after" st_place_after A_place_after D_place_after c_place_after
  A_spread : Addr
  c_spread : Addr
  D_spread : FuncData
  g_spread : mg "spread" = some (.ref A_spread)
  F_spread : FunC K "spread" st_spread A_spread D_spread c_spread
  A_inverse : Addr
  c_inverse : Addr
  D_inverse : FuncData
  g_inverse : mg "inverse" = some (.ref A_inverse)
  F_inverse : FunC K "inverse" st_inverse A_inverse D_inverse c_inverse
  A_undone : Addr
  c_undone : Addr
  D_undone : FuncData
  g_undone : mg "undone" = some (.ref A_undone)
  F_undone : FunC K "undone" st_undone A_undone D_undone c_undone
  A_undoing : Addr
  c_undoing : Addr
  D_undoing : FuncData
  g_undoing : mg "undoing" = some (.ref A_undoing)
  F_undoing : FunC K "undoing" st_undoing A_undoing D_undoing c_undoing
  A__law_draw : Addr
  c__law_draw : Addr
  D__law_draw : FuncData
  g__law_draw : mg "_law_draw" = some (.ref A__law_draw)
  F__law_draw : FunC K "_law_draw" st__law_draw A__law_draw D__law_draw c__law_draw
  A__law_any : Addr
  c__law_any : Addr
  D__law_any : FuncData
  g__law_any : mg "_law_any" = some (.ref A__law_any)
  F__law_any : FunC K "_law_any" st__law_any A__law_any D__law_any c__law_any
  A__law_of : Addr
  c__law_of : Addr
  D__law_of : FuncData
  g__law_of : mg "_law_of" = some (.ref A__law_of)
  F__law_of : FunC K "_law_of" st__law_of A__law_of D__law_of c__law_of
  A__law_large : Addr
  c__law_large : Addr
  D__law_large : FuncData
  g__law_large : mg "_law_large" = some (.ref A__law_large)
  F__law_large : FunC K "_law_large" st__law_large A__law_large D__law_large c__law_large
  A__law_some : Addr
  c__law_some : Addr
  D__law_some : FuncData
  g__law_some : mg "_law_some" = some (.ref A__law_some)
  F__law_some : FunC K "_law_some" st__law_some A__law_some D__law_some c__law_some
  A__law_divisor : Addr
  c__law_divisor : Addr
  D__law_divisor : FuncData
  g__law_divisor : mg "_law_divisor" = some (.ref A__law_divisor)
  F__law_divisor : FunC K "_law_divisor" st__law_divisor A__law_divisor D__law_divisor c__law_divisor
  A__law_move : Addr
  c__law_move : Addr
  D__law_move : FuncData
  g__law_move : mg "_law_move" = some (.ref A__law_move)
  F__law_move : FunC K "_law_move" st__law_move A__law_move D__law_move c__law_move
  A__law_size : Addr
  c__law_size : Addr
  D__law_size : FuncData
  g__law_size : mg "_law_size" = some (.ref A__law_size)
  F__law_size : FunC K "_law_size" st__law_size A__law_size D__law_size c__law_size
  A__law_goes : Addr
  c__law_goes : Addr
  D__law_goes : FuncData
  g__law_goes : mg "_law_goes" = some (.ref A__law_goes)
  F__law_goes : FunC K "_law_goes" st__law_goes A__law_goes D__law_goes c__law_goes
  A__law_led : Addr
  c__law_led : Addr
  D__law_led : FuncData
  g__law_led : mg "_law_led" = some (.ref A__law_led)
  F__law_led : FunC K "_law_led" st__law_led A__law_led D__law_led c__law_led
  A__law_done : Addr
  c__law_done : Addr
  D__law_done : FuncData
  g__law_done : mg "_law_done" = some (.ref A__law_done)
  F__law_done : FunC K "_law_done" st__law_done A__law_done D__law_done c__law_done
  A__law_undone : Addr
  c__law_undone : Addr
  D__law_undone : FuncData
  g__law_undone : mg "_law_undone" = some (.ref A__law_undone)
  F__law_undone : FunC K "_law_undone" st__law_undone A__law_undone D__law_undone c__law_undone
  A__law_refused : Addr
  c__law_refused : Addr
  D__law_refused : FuncData
  g__law_refused : mg "_law_refused" = some (.ref A__law_refused)
  F__law_refused : FunC K "_law_refused" st__law_refused A__law_refused D__law_refused c__law_refused
  A__law_led_right : Addr
  c__law_led_right : Addr
  D__law_led_right : FuncData
  g__law_led_right : mg "_law_led_right" = some (.ref A__law_led_right)
  F__law_led_right : FunC K "_law_led_right" st__law_led_right A__law_led_right D__law_led_right c__law_led_right
  A_law : Addr
  c_law : Addr
  D_law : FuncData
  g_law : mg "law" = some (.ref A_law)
  F_law : FunC K "law" st_law A_law D_law c_law
  A_COUNTS : Addr
  g_COUNTS : mg "COUNTS" = some (.ref A_COUNTS)
  d_COUNTS : KdT K w A_COUNTS tab_COUNTS
  n_abs : mg "abs" = none
  n_all : mg "all" = none
  n_bool : mg "bool" = none
  n_enumerate : mg "enumerate" = none
  n_int : mg "int" = none
  n_isinstance : mg "isinstance" = none
  n_len : mg "len" = none
  n_list : mg "list" = none
  n_max : mg "max" = none
  n_min : mg "min" = none
  n_range : mg "range" = none
  n_repr : mg "repr" = none
  n_str : mg "str" = none
  n_tuple : mg "tuple" = none
  n_zip : mg "zip" = none
  n_super : mg "super" = none
  C_InvalidMove : Addr
  g_InvalidMove : mg "InvalidMove" = some (.ref C_InvalidMove)
  C_Refused : Addr
  g_Refused : mg "Refused" = some (.ref C_Refused)
  atf_InvalidMove : AtC P K C_InvalidMove
  erf_InvalidMove : ErC K C_InvalidMove
  atf_Refused : AtC P K C_Refused
  erf_Refused : ErC K C_Refused
  ts_InvalidMove : TsC K C_InvalidMove
  ts_Refused : TsC K C_Refused
  s_InvalidMove_InvalidMove : PySem.W.subIn K (.ref C_InvalidMove) (.ref C_InvalidMove) = some true
  s_InvalidMove_Refused : PySem.W.subIn K (.ref C_InvalidMove) (.ref C_Refused) = some false
  s_Refused_InvalidMove : PySem.W.subIn K (.ref C_Refused) (.ref C_InvalidMove) = some false
  s_Refused_Refused : PySem.W.subIn K (.ref C_Refused) (.ref C_Refused) = some true
section
variable {P : Program} {w : World} {K : PySem.W.Frag} {mg : Str → Option Value} {base : Heap} {A : Am}
def A0 (T : Txt P w K mg) : Am := ⟨K, none, [], clOf [T.C_InvalidMove, T.C_Refused], none⟩
structure TbB (T : Txt P w K mg) (base : Heap) : Prop where
  no : True
theorem Txt.cl_InvalidMove (T : Txt P w K mg) (hA : Like A (A0 T)) : A.cl 0 = T.C_InvalidMove := by rw [hA.cl]; rfl
theorem Txt.at_InvalidMove (T : Txt P w K mg) (hA : Like A (A0 T)) : AtC P K (A.cl 0) := by rw [T.cl_InvalidMove hA]; exact T.atf_InvalidMove
theorem Txt.ga_InvalidMove (T : Txt P w K mg) (hA : Like A (A0 T)) : mg "InvalidMove" = some (.ref (A.cl 0)) := by rw [T.cl_InvalidMove hA]; exact T.g_InvalidMove
theorem Txt.cl_Refused (T : Txt P w K mg) (hA : Like A (A0 T)) : A.cl 1 = T.C_Refused := by rw [hA.cl]; rfl
theorem Txt.at_Refused (T : Txt P w K mg) (hA : Like A (A0 T)) : AtC P K (A.cl 1) := by rw [T.cl_Refused hA]; exact T.atf_Refused
theorem Txt.ga_Refused (T : Txt P w K mg) (hA : Like A (A0 T)) : mg "Refused" = some (.ref (A.cl 1)) := by rw [T.cl_Refused hA]; exact T.g_Refused
theorem Txt.erC (T : Txt P w K mg) (hA : Like A (A0 T)) : ∀ cn, Nat.blt cn 2 = true → ErC K (A.cl cn) := fun cn h => by
  rw [hA.cl]
  match cn, h with
  | 0, _ => exact T.erf_InvalidMove
  | 1, _ => exact T.erf_Refused
  | n + 2, h => exact absurd (Nat.le_of_ble_eq_true h) (by omega)
theorem Txt.kc_InvalidMove (T : Txt P w K mg) (hA : Like A (A0 T)) : ∀ cn b, (tabM [some true, some false]) cn = some b → PySem.W.kitCls K (.ref (A.cl cn)) (.ref T.C_InvalidMove) = some b := fun cn b h => by
  rw [hA.cl]
  match cn, h with
  | 0, h => cases h; exact kitCls_of T.ts_InvalidMove.hd T.ts_InvalidMove.ty T.s_InvalidMove_InvalidMove
  | 1, h => cases h; exact kitCls_of T.ts_InvalidMove.hd T.ts_InvalidMove.ty T.s_Refused_InvalidMove
  | n + 2, h => simp [tabM] at h
theorem Txt.ex_InvalidMove (T : Txt P w K mg) (hA : Like A (A0 T)) : ∀ cn b, (tabM [some true, some false]) cn = some b → PySem.W.exmOne K (.ref (A.cl cn)) (.ref T.C_InvalidMove) = some b := fun cn b h => exmOne_of T.ts_InvalidMove.ex (T.kc_InvalidMove hA cn b h)
theorem Txt.lt_InvalidMove : ∀ cn b, (tabM [some true, some false]) cn = some b → Nat.blt cn 2 = true := fun cn b h => by
  match cn, h with
  | 0, h => rfl
  | 1, h => rfl
  | n + 2, h => simp [tabM] at h
theorem Txt.ki_InvalidMove (T : Txt P w K mg) (hA : Like A (A0 T)) : ∀ cn b, (tabM [some true, some false]) cn = some b → ErC K (A.cl cn) ∧ PySem.W.kitOne K (.ref (A.cl cn)) (.ref T.C_InvalidMove) = some b := fun cn b h => ⟨T.erC hA cn (Txt.lt_InvalidMove cn b h), kitOne_of (kitCls_of T.ts_InvalidMove.hd T.ts_InvalidMove.ty T.ts_InvalidMove.self) (T.kc_InvalidMove hA cn b h)⟩
theorem Txt.kc_Refused (T : Txt P w K mg) (hA : Like A (A0 T)) : ∀ cn b, (tabM [some false, some true]) cn = some b → PySem.W.kitCls K (.ref (A.cl cn)) (.ref T.C_Refused) = some b := fun cn b h => by
  rw [hA.cl]
  match cn, h with
  | 0, h => cases h; exact kitCls_of T.ts_Refused.hd T.ts_Refused.ty T.s_InvalidMove_Refused
  | 1, h => cases h; exact kitCls_of T.ts_Refused.hd T.ts_Refused.ty T.s_Refused_Refused
  | n + 2, h => simp [tabM] at h
theorem Txt.ex_Refused (T : Txt P w K mg) (hA : Like A (A0 T)) : ∀ cn b, (tabM [some false, some true]) cn = some b → PySem.W.exmOne K (.ref (A.cl cn)) (.ref T.C_Refused) = some b := fun cn b h => exmOne_of T.ts_Refused.ex (T.kc_Refused hA cn b h)
theorem Txt.lt_Refused : ∀ cn b, (tabM [some false, some true]) cn = some b → Nat.blt cn 2 = true := fun cn b h => by
  match cn, h with
  | 0, h => rfl
  | 1, h => rfl
  | n + 2, h => simp [tabM] at h
theorem Txt.ki_Refused (T : Txt P w K mg) (hA : Like A (A0 T)) : ∀ cn b, (tabM [some false, some true]) cn = some b → ErC K (A.cl cn) ∧ PySem.W.kitOne K (.ref (A.cl cn)) (.ref T.C_Refused) = some b := fun cn b h => ⟨T.erC hA cn (Txt.lt_Refused cn b h), kitOne_of (kitCls_of T.ts_Refused.hd T.ts_Refused.ty T.ts_Refused.self) (T.kc_Refused hA cn b h)⟩
theorem sc_is_integer : FnScope ["value"] ["value"] (defScope st_is_integer) := ⟨rfl, rfl, rfl, by decide +kernel, rfl, by decide +kernel, by decide +kernel⟩
theorem b_is_integer (T : Txt P w K mg) : Binds K T.D_is_integer ["value"] [] := T.F_is_integer.fn.binds (ps := ["value"]) fun _ _ _ _ _ _ us hl => match us, hl with | [_], _ => rfl
theorem sc_is_number : FnScope ["value"] ["value"] (defScope st_is_number) := ⟨rfl, rfl, rfl, by decide +kernel, rfl, by decide +kernel, by decide +kernel⟩
theorem b_is_number (T : Txt P w K mg) : Binds K T.D_is_number ["value"] [] := T.F_is_number.fn.binds (ps := ["value"]) fun _ _ _ _ _ _ us hl => match us, hl with | [_], _ => rfl
theorem sc_is_sequence : FnScope ["value"] ["value"] (defScope st_is_sequence) := ⟨rfl, rfl, rfl, by decide +kernel, rfl, by decide +kernel, by decide +kernel⟩
theorem b_is_sequence (T : Txt P w K mg) : Binds K T.D_is_sequence ["value"] [] := T.F_is_sequence.fn.binds (ps := ["value"]) fun _ _ _ _ _ _ us hl => match us, hl with | [_], _ => rfl
theorem sc_is_index : FnScope ["value", "many"] ["value", "many"] (defScope st_is_index) := ⟨rfl, rfl, rfl, by decide +kernel, rfl, by decide +kernel, by decide +kernel⟩
theorem b_is_index (T : Txt P w K mg) : Binds K T.D_is_index ["value", "many"] [] := T.F_is_index.fn.binds (ps := ["value", "many"]) fun _ _ _ _ _ _ us hl => match us, hl with | [_, _], _ => rfl
theorem sc_divisor : FnScope ["one", "other"] ["one", "other"] (defScope st_divisor) := ⟨rfl, rfl, rfl, by decide +kernel, rfl, by decide +kernel, by decide +kernel⟩
theorem b_divisor (T : Txt P w K mg) : Binds K T.D_divisor ["one", "other"] [] := T.F_divisor.fn.binds (ps := ["one", "other"]) fun _ _ _ _ _ _ us hl => match us, hl with | [_, _], _ => rfl
theorem sc_size_of : FnScope ["move"] ["move"] (defScope st_size_of) := ⟨rfl, rfl, rfl, by decide +kernel, rfl, by decide +kernel, by decide +kernel⟩
theorem b_size_of (T : Txt P w K mg) : Binds K T.D_size_of ["move"] [] := T.F_size_of.fn.binds (ps := ["move"]) fun _ _ _ _ _ _ us hl => match us, hl with | [_], _ => rfl
theorem sc_is_move : FnScope ["places", "value", "number"] ["places", "value"] (defScope st_is_move) := ⟨rfl, rfl, rfl, by decide +kernel, rfl, by decide +kernel, by decide +kernel⟩
theorem b_is_move (T : Txt P w K mg) : Binds K T.D_is_move ["places", "value"] [] := T.F_is_move.fn.binds (ps := ["places", "value"]) fun _ _ _ _ _ _ us hl => match us, hl with | [_, _], _ => rfl
theorem sc_checked_moves : FnScope ["places", "value", "at", "move"] ["places", "value"] (defScope st_checked_moves) := ⟨rfl, rfl, rfl, by decide +kernel, rfl, by decide +kernel, by decide +kernel⟩
theorem b_checked_moves (T : Txt P w K mg) : Binds K T.D_checked_moves ["places", "value"] [] := T.F_checked_moves.fn.binds (ps := ["places", "value"]) fun _ _ _ _ _ _ us hl => match us, hl with | [_, _], _ => rfl
theorem sc_moved : FnScope ["move", "place", "at", "i"] ["move", "place"] (defScope st_moved) := ⟨rfl, rfl, rfl, by decide +kernel, rfl, by decide +kernel, by decide +kernel⟩
theorem b_moved (T : Txt P w K mg) : Binds K T.D_moved ["move", "place"] [] := T.F_moved.fn.binds (ps := ["move", "place"]) fun _ _ _ _ _ _ us hl => match us, hl with | [_, _], _ => rfl
theorem sc_led : FnScope ["moves", "place", "move"] ["moves", "place"] (defScope st_led) := ⟨rfl, rfl, rfl, by decide +kernel, rfl, by decide +kernel, by decide +kernel⟩
theorem b_led (T : Txt P w K mg) : Binds K T.D_led ["moves", "place"] [] := T.F_led.fn.binds (ps := ["moves", "place"]) fun _ _ _ _ _ _ us hl => match us, hl with | [_, _], _ => rfl
theorem sc_place_after : FnScope ["places", "moves", "place", "checked"] ["places", "moves", "place"] (defScope st_place_after) := ⟨rfl, rfl, rfl, by decide +kernel, rfl, by decide +kernel, by decide +kernel⟩
theorem b_place_after (T : Txt P w K mg) : Binds K T.D_place_after ["places", "moves", "place"] [] := T.F_place_after.fn.binds (ps := ["places", "moves", "place"]) fun _ _ _ _ _ _ us hl => match us, hl with | [_, _, _], _ => rfl
theorem sc_spread : FnScope ["places", "moves", "checked", "place"] ["places", "moves"] (defScope st_spread) := ⟨rfl, rfl, rfl, by decide +kernel, rfl, by decide +kernel, by decide +kernel⟩
theorem b_spread (T : Txt P w K mg) : Binds K T.D_spread ["places", "moves"] [] := T.F_spread.fn.binds (ps := ["places", "moves"]) fun _ _ _ _ _ _ us hl => match us, hl with | [_, _], _ => rfl
theorem sc_inverse : FnScope ["number", "many", "one", "other", "times"] ["number", "many"] (defScope st_inverse) := ⟨rfl, rfl, rfl, by decide +kernel, rfl, by decide +kernel, by decide +kernel⟩
theorem b_inverse (T : Txt P w K mg) : Binds K T.D_inverse ["number", "many"] [] := T.F_inverse.fn.binds (ps := ["number", "many"]) fun _ _ _ _ _ _ us hl => match us, hl with | [_, _], _ => rfl
theorem sc_undone : FnScope ["move"] ["move"] (defScope st_undone) := ⟨rfl, rfl, rfl, by decide +kernel, rfl, by decide +kernel, by decide +kernel⟩
theorem b_undone (T : Txt P w K mg) : Binds K T.D_undone ["move"] [] := T.F_undone.fn.binds (ps := ["move"]) fun _ _ _ _ _ _ us hl => match us, hl with | [_], _ => rfl
theorem sc_undoing : FnScope ["places", "moves", "move"] ["places", "moves"] (defScope st_undoing) := ⟨rfl, rfl, rfl, by decide +kernel, rfl, by decide +kernel, by decide +kernel⟩
theorem b_undoing (T : Txt P w K mg) : Binds K T.D_undoing ["places", "moves"] [] := T.F_undoing.fn.binds (ps := ["places", "moves"]) fun _ _ _ _ _ _ us hl => match us, hl with | [_, _], _ => rfl
theorem sc__law_draw : FnScope ["script", "salt", "cells", "blend", "cell"] ["script", "salt"] (defScope st__law_draw) := ⟨rfl, rfl, rfl, by decide +kernel, rfl, by decide +kernel, by decide +kernel⟩
theorem b__law_draw (T : Txt P w K mg) : Binds K T.D__law_draw ["script", "salt"] [] := T.F__law_draw.fn.binds (ps := ["script", "salt"]) fun _ _ _ _ _ _ us hl => match us, hl with | [_, _], _ => rfl
theorem sc__law_any : FnScope ["deal", "bound", "rest"] ["deal", "bound"] (defScope st__law_any) := ⟨rfl, rfl, rfl, by decide +kernel, rfl, by decide +kernel, by decide +kernel⟩
theorem b__law_any (T : Txt P w K mg) : Binds K T.D__law_any ["deal", "bound"] [] := T.F__law_any.fn.binds (ps := ["deal", "bound"]) fun _ _ _ _ _ _ us hl => match us, hl with | [_, _], _ => rfl
theorem sc__law_of : FnScope ["deal", "some"] ["deal", "some"] (defScope st__law_of) := ⟨rfl, rfl, rfl, by decide +kernel, rfl, by decide +kernel, by decide +kernel⟩
theorem b__law_of (T : Txt P w K mg) : Binds K T.D__law_of ["deal", "some"] [] := T.F__law_of.fn.binds (ps := ["deal", "some"]) fun _ _ _ _ _ _ us hl => match us, hl with | [_, _], _ => rfl
theorem sc__law_large : FnScope ["deal", "bound", "found", "turn"] ["deal", "bound"] (defScope st__law_large) := ⟨rfl, rfl, rfl, by decide +kernel, rfl, by decide +kernel, by decide +kernel⟩
theorem b__law_large (T : Txt P w K mg) : Binds K T.D__law_large ["deal", "bound"] [] := T.F__law_large.fn.binds (ps := ["deal", "bound"]) fun _ _ _ _ _ _ us hl => match us, hl with | [_, _], _ => rfl
theorem sc__law_some : FnScope ["deal", "bound", "form"] ["deal", "bound"] (defScope st__law_some) := ⟨rfl, rfl, rfl, by decide +kernel, rfl, by decide +kernel, by decide +kernel⟩
theorem b__law_some (T : Txt P w K mg) : Binds K T.D__law_some ["deal", "bound"] [] := T.F__law_some.fn.binds (ps := ["deal", "bound"]) fun _ _ _ _ _ _ us hl => match us, hl with | [_, _], _ => rfl
theorem sc__law_divisor : FnScope ["one", "other"] ["one", "other"] (defScope st__law_divisor) := ⟨rfl, rfl, rfl, by decide +kernel, rfl, by decide +kernel, by decide +kernel⟩
theorem b__law_divisor (T : Txt P w K mg) : Binds K T.D__law_divisor ["one", "other"] [] := T.F__law_divisor.fn.binds (ps := ["one", "other"]) fun _ _ _ _ _ _ us hl => match us, hl with | [_, _], _ => rfl
theorem sc__law_move : FnScope ["deal", "places", "names", "name", "single", "at", "room", "u", "v", "w", "r", "c", "n", "a", "turn", "move"] ["deal", "places", "names"] (defScope st__law_move) := ⟨rfl, rfl, rfl, by decide +kernel, rfl, by decide +kernel, by decide +kernel⟩
theorem b__law_move (T : Txt P w K mg) : Binds K T.D__law_move ["deal", "places", "names"] [] := T.F__law_move.fn.binds (ps := ["deal", "places", "names"]) fun _ _ _ _ _ _ us hl => match us, hl with | [_, _, _], _ => rfl
theorem sc__law_size : FnScope ["move"] ["move"] (defScope st__law_size) := ⟨rfl, rfl, rfl, by decide +kernel, rfl, by decide +kernel, by decide +kernel⟩
theorem b__law_size (T : Txt P w K mg) : Binds K T.D__law_size ["move"] [] := T.F__law_size.fn.binds (ps := ["move"]) fun _ _ _ _ _ _ us hl => match us, hl with | [_], _ => rfl
theorem sc__law_goes : FnScope ["move", "place", "at", "i", "name", "u", "w", "v"] ["move", "place"] (defScope st__law_goes) := ⟨rfl, rfl, rfl, by decide +kernel, rfl, by decide +kernel, by decide +kernel⟩
theorem b__law_goes (T : Txt P w K mg) : Binds K T.D__law_goes ["move", "place"] [] := T.F__law_goes.fn.binds (ps := ["move", "place"]) fun _ _ _ _ _ _ us hl => match us, hl with | [_, _], _ => rfl
theorem sc__law_led : FnScope ["moves", "place", "move"] ["moves", "place"] (defScope st__law_led) := ⟨rfl, rfl, rfl, by decide +kernel, rfl, by decide +kernel, by decide +kernel⟩
theorem b__law_led (T : Txt P w K mg) : Binds K T.D__law_led ["moves", "place"] [] := T.F__law_led.fn.binds (ps := ["moves", "place"]) fun _ _ _ _ _ _ us hl => match us, hl with | [_, _], _ => rfl
theorem sc__law_done : FnScope ["moves", "places", "row", "move", "at", "size", "part", "name", "u", "w", "v", "later", "shift", "r", "c", "i", "entry", "p", "place", "k"] ["moves", "places"] (defScope st__law_done) := ⟨rfl, rfl, rfl, by decide +kernel, rfl, by decide +kernel, by decide +kernel⟩
theorem b__law_done (T : Txt P w K mg) : Binds K T.D__law_done ["moves", "places"] [] := T.F__law_done.fn.binds (ps := ["moves", "places"]) fun _ _ _ _ _ _ us hl => match us, hl with | [_, _], _ => rfl
theorem sc__law_undone : FnScope ["move", "told", "one"] ["move", "told"] (defScope st__law_undone) := ⟨rfl, rfl, rfl, by decide +kernel, rfl, by decide +kernel, by decide +kernel⟩
theorem b__law_undone (T : Txt P w K mg) : Binds K T.D__law_undone ["move", "told"] [] := T.F__law_undone.fn.binds (ps := ["move", "told"]) fun _ _ _ _ _ _ us hl => match us, hl with | [_, _], _ => rfl
theorem sc__law_refused : FnScope ["places", "moves", "place", "e"] ["places", "moves", "place"] (defScope st__law_refused) := ⟨rfl, rfl, rfl, by decide +kernel, rfl, by decide +kernel, by decide +kernel⟩
theorem b__law_refused (T : Txt P w K mg) : Binds K T.D__law_refused ["places", "moves", "place"] [] := T.F__law_refused.fn.binds (ps := ["places", "moves", "place"]) fun _ _ _ _ _ _ us hl => match us, hl with | [_, _, _], _ => rfl
theorem sc__law_led_right : FnScope ["places", "moves", "backs", "place", "due"] ["places", "moves", "backs", "place"] (defScope st__law_led_right) := ⟨rfl, rfl, rfl, by decide +kernel, rfl, by decide +kernel, by decide +kernel⟩
theorem b__law_led_right (T : Txt P w K mg) : Binds K T.D__law_led_right ["places", "moves", "backs", "place"] [] := T.F__law_led_right.fn.binds (ps := ["places", "moves", "backs", "place"]) fun _ _ _ _ _ _ us hl => match us, hl with | [_, _, _, _], _ => rfl
theorem sc_law : FnScope ["script", "deal", "names", "places", "moves", "p", "handed", "backs", "place", "wrong", "looked", "move", "turn", "told"] ["script"] (defScope st_law) := ⟨rfl, rfl, rfl, by decide +kernel, rfl, by decide +kernel, by decide +kernel⟩
theorem b_law (T : Txt P w K mg) : Binds K T.D_law ["script"] [] := T.F_law.fn.binds (ps := ["script"]) fun _ _ _ _ _ _ us hl => match us, hl with | [_], _ => rfl
theorem ok_is_integer (T : Txt P w K mg) (TB : TbB T base) (hA : Like A (A0 T)) : FnOk P w K mg base (L2.CX P w) 1 T.A_is_integer T.D_is_integer ["value"] (spD A 1 F_is_integer) := by
  exact def_okC (k := 0) T.F_is_integer sc_is_integer rfl fun Ar outer sh H Hb E hr => by
    have hK : K = A.K := hA.K.symm
    have nd := sc_is_integer.nd
    have hu : (Ar.deeper (envOfC "is_integer" (defScope st_is_integer) sh.heap.objs.size T.A_is_integer (.ref T.c_is_integer))).units + 65 < cLine := by have := hr.un; omega
    have hu4 : (Ar.deeper (envOfC "is_integer" (defScope st_is_integer) sh.heap.objs.size T.A_is_integer (.ref T.c_is_integer))).units + 64 < cLine := by omega
    have hu6 : (Ar.deeper (envOfC "is_integer" (defScope st_is_integer) sh.heap.objs.size T.A_is_integer (.ref T.c_is_integer))).units + 66 < cLine := by have := hr.un; omega
    have hu5 : (Ar.deeper (envOfC "is_integer" (defScope st_is_integer) sh.heap.objs.size T.A_is_integer (.ref T.c_is_integer))).units + 3 + 65 < cLine := by have := hr.un; omega
    have hu9 : (Ar.deeper (envOfC "is_integer" (defScope st_is_integer) sh.heap.objs.size T.A_is_integer (.ref T.c_is_integer))).units + 3 + 66 < cLine := by have := hr.un; omega
    have ho := passes_of (X := cxOf (L2.CX P w) P w K mg base ["value"] "is_integer" (defScope st_is_integer) T.A_is_integer (.ref T.c_is_integer) Ar outer sh H E) rfl
    have tk : Takes (cxOf (L2.CX P w) P w K mg base ["value"] "is_integer" (defScope st_is_integer) T.A_is_integer (.ref T.c_is_integer) Ar outer sh H E) (fun cls d _ H => E cls d H) := takes_of rfl rfl rfl rfl
    have hp : PassS (cxOf (L2.CX P w) P w K mg base ["value"] "is_integer" (defScope st_is_integer) T.A_is_integer (.ref T.c_is_integer) Ar outer sh H E) (fun _ => E) := PassS.tk tk
    exact (dss_one (ds_ret (de_and (de_isi1 (t := .int) (u := .none) rfl T.n_isinstance rfl T.n_int bt_int (de_bor (pv 0))) (de_one (de_not (de_isi1 (t := .bool) (u := .none) rfl T.n_isinstance rfl T.n_bool bt_bool (de_bor (pv 0))))))))
theorem ok_is_number (T : Txt P w K mg) (TB : TbB T base) (hA : Like A (A0 T)) : FnOk P w K mg base (L2.CX P w) 2 T.A_is_number T.D_is_number ["value"] (spD A 1 F_is_number) := by
  have G_is_integer := ok_is_integer (P := P) (w := w) (base := base) (A := A) T TB hA
  exact def_okC (k := 1) T.F_is_number sc_is_number rfl fun Ar outer sh H Hb E hr => by
    have hK : K = A.K := hA.K.symm
    have nd := sc_is_number.nd
    have hu : (Ar.deeper (envOfC "is_number" (defScope st_is_number) sh.heap.objs.size T.A_is_number (.ref T.c_is_number))).units + 65 < cLine := by have := hr.un; omega
    have hu4 : (Ar.deeper (envOfC "is_number" (defScope st_is_number) sh.heap.objs.size T.A_is_number (.ref T.c_is_number))).units + 64 < cLine := by omega
    have hu6 : (Ar.deeper (envOfC "is_number" (defScope st_is_number) sh.heap.objs.size T.A_is_number (.ref T.c_is_number))).units + 66 < cLine := by have := hr.un; omega
    have hu5 : (Ar.deeper (envOfC "is_number" (defScope st_is_number) sh.heap.objs.size T.A_is_number (.ref T.c_is_number))).units + 3 + 65 < cLine := by have := hr.un; omega
    have hu9 : (Ar.deeper (envOfC "is_number" (defScope st_is_number) sh.heap.objs.size T.A_is_number (.ref T.c_is_number))).units + 3 + 66 < cLine := by have := hr.un; omega
    have ho := passes_of (X := cxOf (L2.CX P w) P w K mg base ["value"] "is_number" (defScope st_is_number) T.A_is_number (.ref T.c_is_number) Ar outer sh H E) rfl
    have tk : Takes (cxOf (L2.CX P w) P w K mg base ["value"] "is_number" (defScope st_is_number) T.A_is_number (.ref T.c_is_number) Ar outer sh H E) (fun cls d _ H => E cls d H) := takes_of rfl rfl rfl rfl
    have hp : PassS (cxOf (L2.CX P w) P w K mg base ["value"] "is_number" (defScope st_is_number) T.A_is_number (.ref T.c_is_number) Ar outer sh H E) (fun _ => E) := PassS.tk tk
    exact (dss_one (ds_ret (de_and (de_call (Calls.of G_is_integer (hr.mono (by decide))) hp rfl T.g_is_integer T.F_is_integer.kp (b_is_integer T) (da_cons (de_var (pv 0)) da_nil)) (de_one (de_cmp od_ge (de_bor (pv 0)) de_int (nomark _))))))
theorem ok_is_sequence (T : Txt P w K mg) (TB : TbB T base) (hA : Like A (A0 T)) : FnOk P w K mg base (L2.CX P w) 1 T.A_is_sequence T.D_is_sequence ["value"] (spD A 1 F_is_sequence) := by
  exact def_okC (k := 0) T.F_is_sequence sc_is_sequence rfl fun Ar outer sh H Hb E hr => by
    have hK : K = A.K := hA.K.symm
    have nd := sc_is_sequence.nd
    have hu : (Ar.deeper (envOfC "is_sequence" (defScope st_is_sequence) sh.heap.objs.size T.A_is_sequence (.ref T.c_is_sequence))).units + 65 < cLine := by have := hr.un; omega
    have hu4 : (Ar.deeper (envOfC "is_sequence" (defScope st_is_sequence) sh.heap.objs.size T.A_is_sequence (.ref T.c_is_sequence))).units + 64 < cLine := by omega
    have hu6 : (Ar.deeper (envOfC "is_sequence" (defScope st_is_sequence) sh.heap.objs.size T.A_is_sequence (.ref T.c_is_sequence))).units + 66 < cLine := by have := hr.un; omega
    have hu5 : (Ar.deeper (envOfC "is_sequence" (defScope st_is_sequence) sh.heap.objs.size T.A_is_sequence (.ref T.c_is_sequence))).units + 3 + 65 < cLine := by have := hr.un; omega
    have hu9 : (Ar.deeper (envOfC "is_sequence" (defScope st_is_sequence) sh.heap.objs.size T.A_is_sequence (.ref T.c_is_sequence))).units + 3 + 66 < cLine := by have := hr.un; omega
    have ho := passes_of (X := cxOf (L2.CX P w) P w K mg base ["value"] "is_sequence" (defScope st_is_sequence) T.A_is_sequence (.ref T.c_is_sequence) Ar outer sh H E) rfl
    have tk : Takes (cxOf (L2.CX P w) P w K mg base ["value"] "is_sequence" (defScope st_is_sequence) T.A_is_sequence (.ref T.c_is_sequence) Ar outer sh H E) (fun cls d _ H => E cls d H) := takes_of rfl rfl rfl rfl
    have hp : PassS (cxOf (L2.CX P w) P w K mg base ["value"] "is_sequence" (defScope st_is_sequence) T.A_is_sequence (.ref T.c_is_sequence) Ar outer sh H E) (fun _ => E) := PassS.tk tk
    exact (dss_one (ds_ret (de_isi2 (t1 := .list) (t2 := .tuple) rfl T.n_isinstance rfl T.n_list bt_list rfl T.n_tuple bt_tuple (de_bor (pv 0)))))
theorem ok_is_index (T : Txt P w K mg) (TB : TbB T base) (hA : Like A (A0 T)) : FnOk P w K mg base (L2.CX P w) 3 T.A_is_index T.D_is_index ["value", "many"] (spD A 2 F_is_index) := by
  have G_is_number := ok_is_number (P := P) (w := w) (base := base) (A := A) T TB hA
  exact def_okC (k := 2) T.F_is_index sc_is_index rfl fun Ar outer sh H Hb E hr => by
    have hK : K = A.K := hA.K.symm
    have nd := sc_is_index.nd
    have hu : (Ar.deeper (envOfC "is_index" (defScope st_is_index) sh.heap.objs.size T.A_is_index (.ref T.c_is_index))).units + 65 < cLine := by have := hr.un; omega
    have hu4 : (Ar.deeper (envOfC "is_index" (defScope st_is_index) sh.heap.objs.size T.A_is_index (.ref T.c_is_index))).units + 64 < cLine := by omega
    have hu6 : (Ar.deeper (envOfC "is_index" (defScope st_is_index) sh.heap.objs.size T.A_is_index (.ref T.c_is_index))).units + 66 < cLine := by have := hr.un; omega
    have hu5 : (Ar.deeper (envOfC "is_index" (defScope st_is_index) sh.heap.objs.size T.A_is_index (.ref T.c_is_index))).units + 3 + 65 < cLine := by have := hr.un; omega
    have hu9 : (Ar.deeper (envOfC "is_index" (defScope st_is_index) sh.heap.objs.size T.A_is_index (.ref T.c_is_index))).units + 3 + 66 < cLine := by have := hr.un; omega
    have ho := passes_of (X := cxOf (L2.CX P w) P w K mg base ["value", "many"] "is_index" (defScope st_is_index) T.A_is_index (.ref T.c_is_index) Ar outer sh H E) rfl
    have tk : Takes (cxOf (L2.CX P w) P w K mg base ["value", "many"] "is_index" (defScope st_is_index) T.A_is_index (.ref T.c_is_index) Ar outer sh H E) (fun cls d _ H => E cls d H) := takes_of rfl rfl rfl rfl
    have hp : PassS (cxOf (L2.CX P w) P w K mg base ["value", "many"] "is_index" (defScope st_is_index) T.A_is_index (.ref T.c_is_index) Ar outer sh H E) (fun _ => E) := PassS.tk tk
    exact (dss_one (ds_ret (de_and (de_call (Calls.of G_is_number (hr.mono (by decide))) hp rfl T.g_is_number T.F_is_number.kp (b_is_number T) (da_cons (de_var (pv 0)) da_nil)) (de_one (de_cmp od_lt (de_bor (pv 0)) (de_bor (pv 1)) (nomark _))))))
theorem ok_divisor (T : Txt P w K mg) (TB : TbB T base) (hA : Like A (A0 T)) : FnOk P w K mg base (L2.CX P w) 1 T.A_divisor T.D_divisor ["one", "other"] (spD A 2 F_divisor) := by
  exact def_okC (k := 0) T.F_divisor sc_divisor rfl fun Ar outer sh H Hb E hr => by
    have hK : K = A.K := hA.K.symm
    have nd := sc_divisor.nd
    have hu : (Ar.deeper (envOfC "divisor" (defScope st_divisor) sh.heap.objs.size T.A_divisor (.ref T.c_divisor))).units + 65 < cLine := by have := hr.un; omega
    have hu4 : (Ar.deeper (envOfC "divisor" (defScope st_divisor) sh.heap.objs.size T.A_divisor (.ref T.c_divisor))).units + 64 < cLine := by omega
    have hu6 : (Ar.deeper (envOfC "divisor" (defScope st_divisor) sh.heap.objs.size T.A_divisor (.ref T.c_divisor))).units + 66 < cLine := by have := hr.un; omega
    have hu5 : (Ar.deeper (envOfC "divisor" (defScope st_divisor) sh.heap.objs.size T.A_divisor (.ref T.c_divisor))).units + 3 + 65 < cLine := by have := hr.un; omega
    have hu9 : (Ar.deeper (envOfC "divisor" (defScope st_divisor) sh.heap.objs.size T.A_divisor (.ref T.c_divisor))).units + 3 + 66 < cLine := by have := hr.un; omega
    have ho := passes_of (X := cxOf (L2.CX P w) P w K mg base ["one", "other"] "divisor" (defScope st_divisor) T.A_divisor (.ref T.c_divisor) Ar outer sh H E) rfl
    have tk : Takes (cxOf (L2.CX P w) P w K mg base ["one", "other"] "divisor" (defScope st_divisor) T.A_divisor (.ref T.c_divisor) Ar outer sh H E) (fun cls d _ H => E cls d H) := takes_of rfl rfl rfl rfl
    have hp : PassS (cxOf (L2.CX P w) P w K mg base ["one", "other"] "divisor" (defScope st_divisor) T.A_divisor (.ref T.c_divisor) Ar outer sh H E) (fun _ => E) := PassS.tk tk
    exact (dss_cons (ds_while (fuel := (fuI 1)) ho (dt_cmp od_gt (de_bor (pv 1)) de_int (nomark _)) (dss_one (ds_par (i := 0) (j := 1) rfl nd rfl rfl (by decide) rfl rfl (de_var (pv 1)) (fun _ => (de_op od_mod (de_t1 cd_int rfl T.n_int bt_int (de_bor (pv 0))) (de_bor (pv 1)))) rfl))) (dss_one (ds_ret (de_mov (pv 0)))))
theorem ok_size_of (T : Txt P w K mg) (TB : TbB T base) (hA : Like A (A0 T)) : FnOk P w K mg base (L2.CX P w) 1 T.A_size_of T.D_size_of ["move"] (spD A 1 F_size_of) := by
  exact def_okC (k := 0) T.F_size_of sc_size_of rfl fun Ar outer sh H Hb E hr => by
    have hK : K = A.K := hA.K.symm
    have nd := sc_size_of.nd
    have hu : (Ar.deeper (envOfC "size_of" (defScope st_size_of) sh.heap.objs.size T.A_size_of (.ref T.c_size_of))).units + 65 < cLine := by have := hr.un; omega
    have hu4 : (Ar.deeper (envOfC "size_of" (defScope st_size_of) sh.heap.objs.size T.A_size_of (.ref T.c_size_of))).units + 64 < cLine := by omega
    have hu6 : (Ar.deeper (envOfC "size_of" (defScope st_size_of) sh.heap.objs.size T.A_size_of (.ref T.c_size_of))).units + 66 < cLine := by have := hr.un; omega
    have hu5 : (Ar.deeper (envOfC "size_of" (defScope st_size_of) sh.heap.objs.size T.A_size_of (.ref T.c_size_of))).units + 3 + 65 < cLine := by have := hr.un; omega
    have hu9 : (Ar.deeper (envOfC "size_of" (defScope st_size_of) sh.heap.objs.size T.A_size_of (.ref T.c_size_of))).units + 3 + 66 < cLine := by have := hr.un; omega
    have ho := passes_of (X := cxOf (L2.CX P w) P w K mg base ["move"] "size_of" (defScope st_size_of) T.A_size_of (.ref T.c_size_of) Ar outer sh H E) rfl
    have tk : Takes (cxOf (L2.CX P w) P w K mg base ["move"] "size_of" (defScope st_size_of) T.A_size_of (.ref T.c_size_of) Ar outer sh H E) (fun cls d _ H => E cls d H) := takes_of rfl rfl rfl rfl
    have hp : PassS (cxOf (L2.CX P w) P w K mg base ["move"] "size_of" (defScope st_size_of) T.A_size_of (.ref T.c_size_of) Ar outer sh H E) (fun _ => E) := PassS.tk tk
    exact (dss_cons (ds_if (dt_cmp (od_eq hK hu4) (de_ix hK (de_bor (pv 0)) de_int) de_str (nomark _)) (dss_one (ds_ret (de_op od_add (de_op od_add (de_ix hK (de_bor (pv 0)) de_int) (de_ix hK (de_bor (pv 0)) de_int)) (de_ix hK (de_bor (pv 0)) de_int)))) dss_nil) (dss_cons (ds_if (dt_cmp (od_eq hK hu4) (de_ix hK (de_bor (pv 0)) de_int) de_str (nomark _)) (dss_one (ds_ret (de_op od_mul (de_ix hK (de_bor (pv 0)) de_int) (de_ix hK (de_bor (pv 0)) de_int)))) dss_nil) (dss_one (ds_ret (de_ix hK (de_bor (pv 0)) de_int)))))
theorem ok_is_move (T : Txt P w K mg) (TB : TbB T base) (hA : Like A (A0 T)) : FnOk P w K mg base (L2.CX P w) 3 T.A_is_move T.D_is_move ["places", "value"] (spD A 2 F_is_move) := by
  have G_divisor := ok_divisor (P := P) (w := w) (base := base) (A := A) T TB hA
  have G_is_number := ok_is_number (P := P) (w := w) (base := base) (A := A) T TB hA
  have G_is_sequence := ok_is_sequence (P := P) (w := w) (base := base) (A := A) T TB hA
  have G_size_of := ok_size_of (P := P) (w := w) (base := base) (A := A) T TB hA
  exact def_okC (k := 2) T.F_is_move sc_is_move rfl fun Ar outer sh H Hb E hr => by
    have hK : K = A.K := hA.K.symm
    have nd := sc_is_move.nd
    have hu : (Ar.deeper (envOfC "is_move" (defScope st_is_move) sh.heap.objs.size T.A_is_move (.ref T.c_is_move))).units + 65 < cLine := by have := hr.un; omega
    have hu4 : (Ar.deeper (envOfC "is_move" (defScope st_is_move) sh.heap.objs.size T.A_is_move (.ref T.c_is_move))).units + 64 < cLine := by omega
    have hu6 : (Ar.deeper (envOfC "is_move" (defScope st_is_move) sh.heap.objs.size T.A_is_move (.ref T.c_is_move))).units + 66 < cLine := by have := hr.un; omega
    have hu5 : (Ar.deeper (envOfC "is_move" (defScope st_is_move) sh.heap.objs.size T.A_is_move (.ref T.c_is_move))).units + 3 + 65 < cLine := by have := hr.un; omega
    have hu9 : (Ar.deeper (envOfC "is_move" (defScope st_is_move) sh.heap.objs.size T.A_is_move (.ref T.c_is_move))).units + 3 + 66 < cLine := by have := hr.un; omega
    have ho := passes_of (X := cxOf (L2.CX P w) P w K mg base ["places", "value", "number"] "is_move" (defScope st_is_move) T.A_is_move (.ref T.c_is_move) Ar outer sh H E) rfl
    have tk : Takes (cxOf (L2.CX P w) P w K mg base ["places", "value", "number"] "is_move" (defScope st_is_move) T.A_is_move (.ref T.c_is_move) Ar outer sh H E) (fun cls d _ H => E cls d H) := takes_of rfl rfl rfl rfl
    have hp : PassS (cxOf (L2.CX P w) P w K mg base ["places", "value", "number"] "is_move" (defScope st_is_move) T.A_is_move (.ref T.c_is_move) Ar outer sh H E) (fun _ => E) := PassS.tk tk
    exact (dss_cons (ds_if (dt_w (dw_or (dt_not (dt_tru hK (de_call (Calls.of G_is_sequence (hr.mono (by decide))) hp rfl T.g_is_sequence T.F_is_sequence.kp (b_is_sequence T) (da_cons (de_var (pv 1)) da_nil)) (fun _ => rfl))) (dw_or (dt_cmp (od_eq hK hu4) (de_b1 cd_len rfl T.n_len bt_len (de_bor (pv 1))) de_int (nomark _)) (dw_or (dt_not (dt_tru hK (de_isi1 (t := .str) (u := .none) rfl T.n_isinstance rfl T.n_str bt_str (de_ix hK (de_bor (pv 1)) de_int)) (fun _ => rfl))) (dw_or1 (dt_notInKd T.d_COUNTS rfl T.g_COUNTS (de_ix hK (de_bor (pv 1)) de_int))))))) (dss_one (ds_ret de_bl)) dss_nil) (dss_cons (ds_if (dt_w (dw_or (dt_cmp (od_ne hK hu4) (de_b1 cd_len rfl T.n_len bt_len (de_bor (pv 1))) (de_op od_add de_int (de_ixKd T.d_COUNTS rfl T.g_COUNTS (de_ix hK (de_bor (pv 1)) de_int))) (nomark _)) (dw_or1 (dt_not (dt_tru hK (de_b1 (cd_all rfl) rfl T.n_all bt_all (de_lc rfl nd (by exact (di_seq (de_sl hK (de_bor (pv 1)) (do_some de_int) do_none))) (blkOk_by (own := [("number", 2)]) (by kernel_rfl)) (fun _ _ _ _ _ => (pg_name (i := 2) nd rfl (Or.inl rfl))) tgs_name rfl (fun _ _ _ _ _ _ => dts_nil) (fun _ _ _ _ _ _ => (de_call (Calls.of G_is_number (hr.mono (by decide))) passE rfl T.g_is_number T.F_is_number.kp (b_is_number T) (da_cons (de_var (pv 2)) da_nil))))) (fun _ => rfl)))))) (dss_one (ds_ret de_bl)) dss_nil) (dss_cons (ds_if (dt_w (dw_or (dt_cmp od_lt (de_ix hK (de_bor (pv 1)) de_int) de_int (nomark _)) (dw_or (dt_w (dw_and (dt_cmp (od_eq hK hu4) (de_ix hK (de_bor (pv 1)) de_int) de_str (nomark _)) (dw_and1 (dt_cmp od_lt (de_ix hK (de_bor (pv 1)) de_int) de_int (nomark _))))) (dw_or1 (dt_w (dw_and (dt_cmp (od_eq hK hu4) (de_ix hK (de_bor (pv 1)) de_int) de_str (nomark _)) (dw_and1 (dt_cmp od_lt (de_ix hK (de_bor (pv 1)) de_int) de_int (nomark _))))))))) (dss_one (ds_ret de_bl)) dss_nil) (dss_cons (ds_if (dt_w (dw_and (dt_cmp (od_eq hK hu4) (de_ix hK (de_bor (pv 1)) de_int) de_str (nomark _)) (dw_and1 (dt_cmp (od_ne hK hu4) (de_call (Calls.of G_divisor (hr.mono (by decide))) hp rfl T.g_divisor T.F_divisor.kp (b_divisor T) (da_cons (de_ix hK (de_bor (pv 1)) de_int) (da_cons (de_ix hK (de_bor (pv 1)) de_int) da_nil))) de_int (nomark _))))) (dss_one (ds_ret de_bl)) dss_nil) (dss_one (ds_ret (de_cmp od_le (de_op od_add (de_ix hK (de_bor (pv 1)) de_int) (de_call (Calls.of G_size_of (hr.mono (by decide))) hp rfl T.g_size_of T.F_size_of.kp (b_size_of T) (da_cons (de_var (pv 1)) da_nil))) (de_bor (pv 0)) (nomark _))))))))
theorem ok_checked_moves (T : Txt P w K mg) (TB : TbB T base) (hA : Like A (A0 T)) : FnOk P w K mg base (L2.CX P w) 4 T.A_checked_moves T.D_checked_moves ["places", "value"] (spD A 2 F_checked_moves) := by
  have G_is_move := ok_is_move (P := P) (w := w) (base := base) (A := A) T TB hA
  have G_is_sequence := ok_is_sequence (P := P) (w := w) (base := base) (A := A) T TB hA
  exact def_okC (k := 3) T.F_checked_moves sc_checked_moves rfl fun Ar outer sh H Hb E hr => by
    have hK : K = A.K := hA.K.symm
    have nd := sc_checked_moves.nd
    have hu : (Ar.deeper (envOfC "checked_moves" (defScope st_checked_moves) sh.heap.objs.size T.A_checked_moves (.ref T.c_checked_moves))).units + 65 < cLine := by have := hr.un; omega
    have hu4 : (Ar.deeper (envOfC "checked_moves" (defScope st_checked_moves) sh.heap.objs.size T.A_checked_moves (.ref T.c_checked_moves))).units + 64 < cLine := by omega
    have hu6 : (Ar.deeper (envOfC "checked_moves" (defScope st_checked_moves) sh.heap.objs.size T.A_checked_moves (.ref T.c_checked_moves))).units + 66 < cLine := by have := hr.un; omega
    have hu5 : (Ar.deeper (envOfC "checked_moves" (defScope st_checked_moves) sh.heap.objs.size T.A_checked_moves (.ref T.c_checked_moves))).units + 3 + 65 < cLine := by have := hr.un; omega
    have hu9 : (Ar.deeper (envOfC "checked_moves" (defScope st_checked_moves) sh.heap.objs.size T.A_checked_moves (.ref T.c_checked_moves))).units + 3 + 66 < cLine := by have := hr.un; omega
    have ho := passes_of (X := cxOf (L2.CX P w) P w K mg base ["places", "value", "at", "move"] "checked_moves" (defScope st_checked_moves) T.A_checked_moves (.ref T.c_checked_moves) Ar outer sh H E) rfl
    have tk : Takes (cxOf (L2.CX P w) P w K mg base ["places", "value", "at", "move"] "checked_moves" (defScope st_checked_moves) T.A_checked_moves (.ref T.c_checked_moves) Ar outer sh H E) (fun cls d _ H => E cls d H) := takes_of rfl rfl rfl rfl
    have hp : PassS (cxOf (L2.CX P w) P w K mg base ["places", "value", "at", "move"] "checked_moves" (defScope st_checked_moves) T.A_checked_moves (.ref T.c_checked_moves) Ar outer sh H E) (fun _ => E) := PassS.tk tk
    exact (dss_cons (ds_if (dt_not (dt_tru hK (de_call (Calls.of G_is_sequence (hr.mono (by decide))) hp rfl T.g_is_sequence T.F_is_sequence.kp (b_is_sequence T) (da_cons (de_var (pv 1)) da_nil)) (fun _ => rfl))) (dss_one (ds_raise (k := 0) rfl tk (T.at_InvalidMove hA) T.n_super (hr.mono (by decide)) rfl (T.ga_InvalidMove hA) de_int)) dss_nil) (dss_cons (ds_for ho rfl (di_en rfl T.n_enumerate (da_cons (de_var (pv 1)) da_nil)) (pg_tup rfl (pgs_cons (pg_name (i := 2) nd rfl (Or.inl rfl)) (pgs_cons (pg_name (i := 3) nd rfl (Or.inl rfl)) pgs_nil))) (tgs_tup (tgs_cons tgs_name (tgs_cons tgs_name tgs_nil))) (dss_one (ds_if (dt_not (dt_tru hK (de_call (Calls.of G_is_move (hr.mono (by decide))) hp rfl T.g_is_move T.F_is_move.kp (b_is_move T) (da_cons (de_var (pv 0)) (da_cons (de_var (pv 3)) da_nil))) (fun _ => rfl))) (dss_one (ds_raise (k := 0) rfl tk (T.at_InvalidMove hA) T.n_super (hr.mono (by decide)) rfl (T.ga_InvalidMove hA) (de_var (pv 2)))) dss_nil))) (dss_one (ds_ret (de_t1 cd_tuple rfl T.n_tuple bt_tuple (de_lc rfl nd (by exact (di_seq (de_var (pv 1)))) (blkOk_by (own := [("move", 3)]) (by kernel_rfl)) (fun _ _ _ _ _ => (pg_name (i := 3) nd rfl (Or.inl rfl))) tgs_name rfl (fun _ _ _ _ _ _ => dts_nil) (fun _ _ _ _ _ _ => (de_t1 cd_tuple rfl T.n_tuple bt_tuple (de_bor (pv 3))))))))))
theorem ok_moved (T : Txt P w K mg) (TB : TbB T base) (hA : Like A (A0 T)) : FnOk P w K mg base (L2.CX P w) 2 T.A_moved T.D_moved ["move", "place"] (spD A 2 F_moved) := by
  have G_size_of := ok_size_of (P := P) (w := w) (base := base) (A := A) T TB hA
  exact def_okC (k := 1) T.F_moved sc_moved rfl fun Ar outer sh H Hb E hr => by
    have hK : K = A.K := hA.K.symm
    have nd := sc_moved.nd
    have hu : (Ar.deeper (envOfC "moved" (defScope st_moved) sh.heap.objs.size T.A_moved (.ref T.c_moved))).units + 65 < cLine := by have := hr.un; omega
    have hu4 : (Ar.deeper (envOfC "moved" (defScope st_moved) sh.heap.objs.size T.A_moved (.ref T.c_moved))).units + 64 < cLine := by omega
    have hu6 : (Ar.deeper (envOfC "moved" (defScope st_moved) sh.heap.objs.size T.A_moved (.ref T.c_moved))).units + 66 < cLine := by have := hr.un; omega
    have hu5 : (Ar.deeper (envOfC "moved" (defScope st_moved) sh.heap.objs.size T.A_moved (.ref T.c_moved))).units + 3 + 65 < cLine := by have := hr.un; omega
    have hu9 : (Ar.deeper (envOfC "moved" (defScope st_moved) sh.heap.objs.size T.A_moved (.ref T.c_moved))).units + 3 + 66 < cLine := by have := hr.un; omega
    have ho := passes_of (X := cxOf (L2.CX P w) P w K mg base ["move", "place", "at", "i"] "moved" (defScope st_moved) T.A_moved (.ref T.c_moved) Ar outer sh H E) rfl
    have tk : Takes (cxOf (L2.CX P w) P w K mg base ["move", "place", "at", "i"] "moved" (defScope st_moved) T.A_moved (.ref T.c_moved) Ar outer sh H E) (fun cls d _ H => E cls d H) := takes_of rfl rfl rfl rfl
    have hp : PassS (cxOf (L2.CX P w) P w K mg base ["move", "place", "at", "i"] "moved" (defScope st_moved) T.A_moved (.ref T.c_moved) Ar outer sh H E) (fun _ => E) := PassS.tk tk
    exact (dss_cons (ds_par (i := 2) (j := 3) rfl nd rfl rfl (by decide) rfl rfl (de_ix hK (de_bor (pv 0)) de_int) (fun _ => (de_op od_sub (de_bor (pv 1)) (de_ix hK (de_bor (pv 0)) de_int))) rfl) (dss_cons (ds_if (dt_w (dw_or (dt_cmp od_lt (de_bor (pv 3)) de_int (nomark _)) (dw_or1 (dt_cmp od_ge (de_bor (pv 3)) (de_call (Calls.of G_size_of (hr.mono (by decide))) hp rfl T.g_size_of T.F_size_of.kp (b_size_of T) (da_cons (de_var (pv 0)) da_nil)) (nomark _))))) (dss_one (ds_ret (de_mov (pv 1)))) dss_nil) (dss_cons (ds_if (dt_cmp (od_eq hK hu4) (de_ix hK (de_bor (pv 0)) de_int) de_str (nomark _)) (dss_cons (ds_if (dt_cmp od_lt (de_bor (pv 3)) (de_ix hK (de_bor (pv 0)) de_int) (nomark _)) (dss_one (ds_ret (de_op od_add (de_op od_add (de_bor (pv 1)) (de_ix hK (de_bor (pv 0)) de_int)) (de_ix hK (de_bor (pv 0)) de_int)))) dss_nil) (dss_one (ds_ret (de_if (dt_cmp od_lt (de_bor (pv 3)) (de_op od_add (de_ix hK (de_bor (pv 0)) de_int) (de_ix hK (de_bor (pv 0)) de_int)) (nomark _)) (de_op od_sub (de_op od_add (de_bor (pv 1)) (de_ix hK (de_bor (pv 0)) de_int)) (de_ix hK (de_bor (pv 0)) de_int)) (de_op od_sub (de_op od_sub (de_bor (pv 1)) (de_ix hK (de_bor (pv 0)) de_int)) (de_ix hK (de_bor (pv 0)) de_int)))))) dss_nil) (dss_cons (ds_if (dt_cmp (od_eq hK hu4) (de_ix hK (de_bor (pv 0)) de_int) de_str (nomark _)) (dss_one (ds_ret (de_op od_add (de_bor (pv 2)) (de_op od_mod (de_op od_add (de_bor (pv 3)) (de_ix hK (de_bor (pv 0)) de_int)) (de_ix hK (de_bor (pv 0)) de_int))))) dss_nil) (dss_cons (ds_if (dt_cmp (od_eq hK hu4) (de_ix hK (de_bor (pv 0)) de_int) de_str (nomark _)) (dss_one (ds_ret (de_op od_sub (de_op od_sub (de_op od_add (de_bor (pv 2)) (de_ix hK (de_bor (pv 0)) de_int)) de_int) (de_bor (pv 3))))) dss_nil) (dss_cons (ds_if (dt_cmp (od_eq hK hu4) (de_ix hK (de_bor (pv 0)) de_int) de_str (nomark _)) (dss_one (ds_ret (de_op od_add (de_op od_add (de_bor (pv 2)) (de_op od_mul (de_op od_mod (de_bor (pv 3)) (de_ix hK (de_bor (pv 0)) de_int)) (de_ix hK (de_bor (pv 0)) de_int))) (de_op od_fdiv (de_bor (pv 3)) (de_ix hK (de_bor (pv 0)) de_int))))) dss_nil) (dss_one (ds_ret (de_op od_add (de_bor (pv 2)) (de_op od_mod (de_op od_mul (de_bor (pv 3)) (de_ix hK (de_bor (pv 0)) de_int)) (de_ix hK (de_bor (pv 0)) de_int)))))))))))
theorem ok_led (T : Txt P w K mg) (TB : TbB T base) (hA : Like A (A0 T)) : FnOk P w K mg base (L2.CX P w) 3 T.A_led T.D_led ["moves", "place"] (spD A 2 F_led) := by
  have G_moved := ok_moved (P := P) (w := w) (base := base) (A := A) T TB hA
  exact def_okC (k := 2) T.F_led sc_led rfl fun Ar outer sh H Hb E hr => by
    have hK : K = A.K := hA.K.symm
    have nd := sc_led.nd
    have hu : (Ar.deeper (envOfC "led" (defScope st_led) sh.heap.objs.size T.A_led (.ref T.c_led))).units + 65 < cLine := by have := hr.un; omega
    have hu4 : (Ar.deeper (envOfC "led" (defScope st_led) sh.heap.objs.size T.A_led (.ref T.c_led))).units + 64 < cLine := by omega
    have hu6 : (Ar.deeper (envOfC "led" (defScope st_led) sh.heap.objs.size T.A_led (.ref T.c_led))).units + 66 < cLine := by have := hr.un; omega
    have hu5 : (Ar.deeper (envOfC "led" (defScope st_led) sh.heap.objs.size T.A_led (.ref T.c_led))).units + 3 + 65 < cLine := by have := hr.un; omega
    have hu9 : (Ar.deeper (envOfC "led" (defScope st_led) sh.heap.objs.size T.A_led (.ref T.c_led))).units + 3 + 66 < cLine := by have := hr.un; omega
    have ho := passes_of (X := cxOf (L2.CX P w) P w K mg base ["moves", "place", "move"] "led" (defScope st_led) T.A_led (.ref T.c_led) Ar outer sh H E) rfl
    have tk : Takes (cxOf (L2.CX P w) P w K mg base ["moves", "place", "move"] "led" (defScope st_led) T.A_led (.ref T.c_led) Ar outer sh H E) (fun cls d _ H => E cls d H) := takes_of rfl rfl rfl rfl
    have hp : PassS (cxOf (L2.CX P w) P w K mg base ["moves", "place", "move"] "led" (defScope st_led) T.A_led (.ref T.c_led) Ar outer sh H E) (fun _ => E) := PassS.tk tk
    exact (dss_cons (ds_for ho rfl (di_seq (de_var (pv 0))) (pg_name (i := 2) nd rfl (Or.inl rfl)) tgs_name (dss_one (ds_set (ps_set (i := 1) nd rfl (Or.inl rfl) (de_call (Calls.of G_moved (hr.mono (by decide))) hp rfl T.g_moved T.F_moved.kp (b_moved T) (da_cons (de_var (pv 2)) (da_cons (de_var (pv 1)) da_nil))))))) (dss_one (ds_ret (de_mov (pv 1)))))
theorem ok_place_after (T : Txt P w K mg) (TB : TbB T base) (hA : Like A (A0 T)) : FnOk P w K mg base (L2.CX P w) 5 T.A_place_after T.D_place_after ["places", "moves", "place"] (spD A 3 F_place_after) := by
  have G_checked_moves := ok_checked_moves (P := P) (w := w) (base := base) (A := A) T TB hA
  have G_is_index := ok_is_index (P := P) (w := w) (base := base) (A := A) T TB hA
  have G_led := ok_led (P := P) (w := w) (base := base) (A := A) T TB hA
  exact def_okC (k := 4) T.F_place_after sc_place_after rfl fun Ar outer sh H Hb E hr => by
    have hK : K = A.K := hA.K.symm
    have nd := sc_place_after.nd
    have hu : (Ar.deeper (envOfC "place_after" (defScope st_place_after) sh.heap.objs.size T.A_place_after (.ref T.c_place_after))).units + 65 < cLine := by have := hr.un; omega
    have hu4 : (Ar.deeper (envOfC "place_after" (defScope st_place_after) sh.heap.objs.size T.A_place_after (.ref T.c_place_after))).units + 64 < cLine := by omega
    have hu6 : (Ar.deeper (envOfC "place_after" (defScope st_place_after) sh.heap.objs.size T.A_place_after (.ref T.c_place_after))).units + 66 < cLine := by have := hr.un; omega
    have hu5 : (Ar.deeper (envOfC "place_after" (defScope st_place_after) sh.heap.objs.size T.A_place_after (.ref T.c_place_after))).units + 3 + 65 < cLine := by have := hr.un; omega
    have hu9 : (Ar.deeper (envOfC "place_after" (defScope st_place_after) sh.heap.objs.size T.A_place_after (.ref T.c_place_after))).units + 3 + 66 < cLine := by have := hr.un; omega
    have ho := passes_of (X := cxOf (L2.CX P w) P w K mg base ["places", "moves", "place", "checked"] "place_after" (defScope st_place_after) T.A_place_after (.ref T.c_place_after) Ar outer sh H E) rfl
    have tk : Takes (cxOf (L2.CX P w) P w K mg base ["places", "moves", "place", "checked"] "place_after" (defScope st_place_after) T.A_place_after (.ref T.c_place_after) Ar outer sh H E) (fun cls d _ H => E cls d H) := takes_of rfl rfl rfl rfl
    have hp : PassS (cxOf (L2.CX P w) P w K mg base ["places", "moves", "place", "checked"] "place_after" (defScope st_place_after) T.A_place_after (.ref T.c_place_after) Ar outer sh H E) (fun _ => E) := PassS.tk tk
    exact (dss_cons (ds_set (ps_set (i := 3) nd rfl (Or.inl rfl) (de_call (Calls.of G_checked_moves (hr.mono (by decide))) hp rfl T.g_checked_moves T.F_checked_moves.kp (b_checked_moves T) (da_cons (de_var (pv 0)) (da_cons (de_var (pv 1)) da_nil))))) (dss_cons (ds_if (dt_not (dt_tru hK (de_call (Calls.of G_is_index (hr.mono (by decide))) hp rfl T.g_is_index T.F_is_index.kp (b_is_index T) (da_cons (de_var (pv 2)) (da_cons (de_var (pv 0)) da_nil))) (fun _ => rfl))) (dss_one (ds_raise (k := 0) rfl tk (T.at_Refused hA) T.n_super (hr.mono (by decide)) rfl (T.ga_Refused hA) de_int)) dss_nil) (dss_one (ds_ret (de_call (Calls.of G_led (hr.mono (by decide))) hp rfl T.g_led T.F_led.kp (b_led T) (da_cons (de_var (pv 3)) (da_cons (de_var (pv 2)) da_nil)))))))
theorem ok_spread (T : Txt P w K mg) (TB : TbB T base) (hA : Like A (A0 T)) : FnOk P w K mg base (L2.CX P w) 5 T.A_spread T.D_spread ["places", "moves"] (spD A 2 F_spread) := by
  have G_checked_moves := ok_checked_moves (P := P) (w := w) (base := base) (A := A) T TB hA
  have G_led := ok_led (P := P) (w := w) (base := base) (A := A) T TB hA
  exact def_okC (k := 4) T.F_spread sc_spread rfl fun Ar outer sh H Hb E hr => by
    have hK : K = A.K := hA.K.symm
    have nd := sc_spread.nd
    have hu : (Ar.deeper (envOfC "spread" (defScope st_spread) sh.heap.objs.size T.A_spread (.ref T.c_spread))).units + 65 < cLine := by have := hr.un; omega
    have hu4 : (Ar.deeper (envOfC "spread" (defScope st_spread) sh.heap.objs.size T.A_spread (.ref T.c_spread))).units + 64 < cLine := by omega
    have hu6 : (Ar.deeper (envOfC "spread" (defScope st_spread) sh.heap.objs.size T.A_spread (.ref T.c_spread))).units + 66 < cLine := by have := hr.un; omega
    have hu5 : (Ar.deeper (envOfC "spread" (defScope st_spread) sh.heap.objs.size T.A_spread (.ref T.c_spread))).units + 3 + 65 < cLine := by have := hr.un; omega
    have hu9 : (Ar.deeper (envOfC "spread" (defScope st_spread) sh.heap.objs.size T.A_spread (.ref T.c_spread))).units + 3 + 66 < cLine := by have := hr.un; omega
    have ho := passes_of (X := cxOf (L2.CX P w) P w K mg base ["places", "moves", "checked", "place"] "spread" (defScope st_spread) T.A_spread (.ref T.c_spread) Ar outer sh H E) rfl
    have tk : Takes (cxOf (L2.CX P w) P w K mg base ["places", "moves", "checked", "place"] "spread" (defScope st_spread) T.A_spread (.ref T.c_spread) Ar outer sh H E) (fun cls d _ H => E cls d H) := takes_of rfl rfl rfl rfl
    have hp : PassS (cxOf (L2.CX P w) P w K mg base ["places", "moves", "checked", "place"] "spread" (defScope st_spread) T.A_spread (.ref T.c_spread) Ar outer sh H E) (fun _ => E) := PassS.tk tk
    exact (dss_cons (ds_set (ps_set (i := 2) nd rfl (Or.inr rfl) (de_call (Calls.of G_checked_moves (hr.mono (by decide))) hp rfl T.g_checked_moves T.F_checked_moves.kp (b_checked_moves T) (da_cons (de_var (pv 0)) (da_cons (de_var (pv 1)) da_nil))))) (dss_one (ds_ret (de_t1 cd_tuple rfl T.n_tuple bt_tuple (de_lc rfl nd (by exact (di_range1 rfl T.n_range (de_bor (pv 0)))) (blkOk_by (own := [("place", 3)]) (by kernel_rfl)) (fun _ _ _ _ _ => (pg_name (i := 3) nd rfl (Or.inl rfl))) tgs_name rfl (fun _ _ _ _ _ _ => dts_nil) (fun _ _ _ _ _ _ => (de_call (Calls.of G_led (hr.mono (by decide))) passE rfl T.g_led T.F_led.kp (b_led T) (da_cons (de_var (pv 2)) (da_cons (de_var (pv 3)) da_nil)))))))))
theorem ok_inverse (T : Txt P w K mg) (TB : TbB T base) (hA : Like A (A0 T)) : FnOk P w K mg base (L2.CX P w) 1 T.A_inverse T.D_inverse ["number", "many"] (spD A 2 F_inverse) := by
  exact def_okC (k := 0) T.F_inverse sc_inverse rfl fun Ar outer sh H Hb E hr => by
    have hK : K = A.K := hA.K.symm
    have nd := sc_inverse.nd
    have hu : (Ar.deeper (envOfC "inverse" (defScope st_inverse) sh.heap.objs.size T.A_inverse (.ref T.c_inverse))).units + 65 < cLine := by have := hr.un; omega
    have hu4 : (Ar.deeper (envOfC "inverse" (defScope st_inverse) sh.heap.objs.size T.A_inverse (.ref T.c_inverse))).units + 64 < cLine := by omega
    have hu6 : (Ar.deeper (envOfC "inverse" (defScope st_inverse) sh.heap.objs.size T.A_inverse (.ref T.c_inverse))).units + 66 < cLine := by have := hr.un; omega
    have hu5 : (Ar.deeper (envOfC "inverse" (defScope st_inverse) sh.heap.objs.size T.A_inverse (.ref T.c_inverse))).units + 3 + 65 < cLine := by have := hr.un; omega
    have hu9 : (Ar.deeper (envOfC "inverse" (defScope st_inverse) sh.heap.objs.size T.A_inverse (.ref T.c_inverse))).units + 3 + 66 < cLine := by have := hr.un; omega
    have ho := passes_of (X := cxOf (L2.CX P w) P w K mg base ["number", "many", "one", "other", "times"] "inverse" (defScope st_inverse) T.A_inverse (.ref T.c_inverse) Ar outer sh H E) rfl
    have tk : Takes (cxOf (L2.CX P w) P w K mg base ["number", "many", "one", "other", "times"] "inverse" (defScope st_inverse) T.A_inverse (.ref T.c_inverse) Ar outer sh H E) (fun cls d _ H => E cls d H) := takes_of rfl rfl rfl rfl
    have hp : PassS (cxOf (L2.CX P w) P w K mg base ["number", "many", "one", "other", "times"] "inverse" (defScope st_inverse) T.A_inverse (.ref T.c_inverse) Ar outer sh H E) (fun _ => E) := PassS.tk tk
    exact (dss_cons (ds_par (i := 2) (j := 3) rfl nd rfl rfl (by decide) rfl rfl (de_tup (da_cons (de_var (pv 1)) (da_cons de_int da_nil))) (fun _ => (de_tup (da_cons (de_op od_mod (de_bor (pv 0)) (de_bor (pv 1))) (da_cons de_int da_nil)))) rfl) (dss_cons (ds_while (fuel := (fun _ => 1000000000000000000000)) ho (dt_cmp od_gt (de_ix hK (de_bor (pv 3)) de_int) de_int (nomark _)) (dss_cons (ds_set (ps_set (i := 4) nd rfl (Or.inl rfl) (de_op od_fdiv (de_ix hK (de_bor (pv 2)) de_int) (de_ix hK (de_bor (pv 3)) de_int)))) (dss_one (ds_par (i := 2) (j := 3) rfl nd rfl rfl (by decide) rfl rfl (de_var (pv 3)) (fun _ => (de_tup (da_cons (de_op od_sub (de_ix hK (de_bor (pv 2)) de_int) (de_op od_mul (de_bor (pv 4)) (de_ix hK (de_bor (pv 3)) de_int))) (da_cons (de_op od_sub (de_ix hK (de_bor (pv 2)) de_int) (de_op od_mul (de_bor (pv 4)) (de_ix hK (de_bor (pv 3)) de_int))) da_nil)))) rfl)))) (dss_one (ds_ret (de_op od_mod (de_ix hK (de_bor (pv 2)) de_int) (de_bor (pv 1)))))))
theorem ok_undone (T : Txt P w K mg) (TB : TbB T base) (hA : Like A (A0 T)) : FnOk P w K mg base (L2.CX P w) 2 T.A_undone T.D_undone ["move"] (spD A 1 F_undone) := by
  have G_inverse := ok_inverse (P := P) (w := w) (base := base) (A := A) T TB hA
  exact def_okC (k := 1) T.F_undone sc_undone rfl fun Ar outer sh H Hb E hr => by
    have hK : K = A.K := hA.K.symm
    have nd := sc_undone.nd
    have hu : (Ar.deeper (envOfC "undone" (defScope st_undone) sh.heap.objs.size T.A_undone (.ref T.c_undone))).units + 65 < cLine := by have := hr.un; omega
    have hu4 : (Ar.deeper (envOfC "undone" (defScope st_undone) sh.heap.objs.size T.A_undone (.ref T.c_undone))).units + 64 < cLine := by omega
    have hu6 : (Ar.deeper (envOfC "undone" (defScope st_undone) sh.heap.objs.size T.A_undone (.ref T.c_undone))).units + 66 < cLine := by have := hr.un; omega
    have hu5 : (Ar.deeper (envOfC "undone" (defScope st_undone) sh.heap.objs.size T.A_undone (.ref T.c_undone))).units + 3 + 65 < cLine := by have := hr.un; omega
    have hu9 : (Ar.deeper (envOfC "undone" (defScope st_undone) sh.heap.objs.size T.A_undone (.ref T.c_undone))).units + 3 + 66 < cLine := by have := hr.un; omega
    have ho := passes_of (X := cxOf (L2.CX P w) P w K mg base ["move"] "undone" (defScope st_undone) T.A_undone (.ref T.c_undone) Ar outer sh H E) rfl
    have tk : Takes (cxOf (L2.CX P w) P w K mg base ["move"] "undone" (defScope st_undone) T.A_undone (.ref T.c_undone) Ar outer sh H E) (fun cls d _ H => E cls d H) := takes_of rfl rfl rfl rfl
    have hp : PassS (cxOf (L2.CX P w) P w K mg base ["move"] "undone" (defScope st_undone) T.A_undone (.ref T.c_undone) Ar outer sh H E) (fun _ => E) := PassS.tk tk
    exact (dss_cons (ds_if (dt_cmp (od_eq hK hu4) (de_ix hK (de_bor (pv 0)) de_int) de_str (nomark _)) (dss_one (ds_ret (de_tup (da_cons (de_ix hK (de_bor (pv 0)) de_int) (da_cons (de_ix hK (de_bor (pv 0)) de_int) (da_cons (de_ix hK (de_bor (pv 0)) de_int) (da_cons (de_ix hK (de_bor (pv 0)) de_int) (da_cons (de_ix hK (de_bor (pv 0)) de_int) da_nil)))))))) dss_nil) (dss_cons (ds_if (dt_cmp (od_eq hK hu4) (de_ix hK (de_bor (pv 0)) de_int) de_str (nomark _)) (dss_one (ds_ret (de_tup (da_cons (de_ix hK (de_bor (pv 0)) de_int) (da_cons (de_ix hK (de_bor (pv 0)) de_int) (da_cons (de_ix hK (de_bor (pv 0)) de_int) (da_cons (de_op od_mod (de_neg (de_ix hK (de_bor (pv 0)) de_int)) (de_ix hK (de_bor (pv 0)) de_int)) da_nil))))))) dss_nil) (dss_cons (ds_if (dt_cmp (od_eq hK hu4) (de_ix hK (de_bor (pv 0)) de_int) de_str (nomark _)) (dss_one (ds_ret (de_tup (da_cons (de_ix hK (de_bor (pv 0)) de_int) (da_cons (de_ix hK (de_bor (pv 0)) de_int) (da_cons (de_ix hK (de_bor (pv 0)) de_int) (da_cons (de_ix hK (de_bor (pv 0)) de_int) da_nil))))))) dss_nil) (dss_one (ds_ret (de_if (dt_cmp (od_eq hK hu4) (de_ix hK (de_bor (pv 0)) de_int) de_str (nomark _)) (de_mov (pv 0)) (de_tup (da_cons (de_ix hK (de_bor (pv 0)) de_int) (da_cons (de_ix hK (de_bor (pv 0)) de_int) (da_cons (de_ix hK (de_bor (pv 0)) de_int) (da_cons (de_call (Calls.of G_inverse (hr.mono (by decide))) hp rfl T.g_inverse T.F_inverse.kp (b_inverse T) (da_cons (de_ix hK (de_bor (pv 0)) de_int) (da_cons (de_ix hK (de_bor (pv 0)) de_int) da_nil))) da_nil)))))))))))
theorem ok_undoing (T : Txt P w K mg) (TB : TbB T base) (hA : Like A (A0 T)) : FnOk P w K mg base (L2.CX P w) 5 T.A_undoing T.D_undoing ["places", "moves"] (spD A 2 F_undoing) := by
  have G_checked_moves := ok_checked_moves (P := P) (w := w) (base := base) (A := A) T TB hA
  have G_undone := ok_undone (P := P) (w := w) (base := base) (A := A) T TB hA
  exact def_okC (k := 4) T.F_undoing sc_undoing rfl fun Ar outer sh H Hb E hr => by
    have hK : K = A.K := hA.K.symm
    have nd := sc_undoing.nd
    have hu : (Ar.deeper (envOfC "undoing" (defScope st_undoing) sh.heap.objs.size T.A_undoing (.ref T.c_undoing))).units + 65 < cLine := by have := hr.un; omega
    have hu4 : (Ar.deeper (envOfC "undoing" (defScope st_undoing) sh.heap.objs.size T.A_undoing (.ref T.c_undoing))).units + 64 < cLine := by omega
    have hu6 : (Ar.deeper (envOfC "undoing" (defScope st_undoing) sh.heap.objs.size T.A_undoing (.ref T.c_undoing))).units + 66 < cLine := by have := hr.un; omega
    have hu5 : (Ar.deeper (envOfC "undoing" (defScope st_undoing) sh.heap.objs.size T.A_undoing (.ref T.c_undoing))).units + 3 + 65 < cLine := by have := hr.un; omega
    have hu9 : (Ar.deeper (envOfC "undoing" (defScope st_undoing) sh.heap.objs.size T.A_undoing (.ref T.c_undoing))).units + 3 + 66 < cLine := by have := hr.un; omega
    have ho := passes_of (X := cxOf (L2.CX P w) P w K mg base ["places", "moves", "move"] "undoing" (defScope st_undoing) T.A_undoing (.ref T.c_undoing) Ar outer sh H E) rfl
    have tk : Takes (cxOf (L2.CX P w) P w K mg base ["places", "moves", "move"] "undoing" (defScope st_undoing) T.A_undoing (.ref T.c_undoing) Ar outer sh H E) (fun cls d _ H => E cls d H) := takes_of rfl rfl rfl rfl
    have hp : PassS (cxOf (L2.CX P w) P w K mg base ["places", "moves", "move"] "undoing" (defScope st_undoing) T.A_undoing (.ref T.c_undoing) Ar outer sh H E) (fun _ => E) := PassS.tk tk
    exact (dss_one (ds_ret (de_t1 cd_tuple rfl T.n_tuple bt_tuple (de_lc rfl nd (by exact (di_seq (de_rev hK (de_call (Calls.of G_checked_moves (hr.mono (by decide))) hp rfl T.g_checked_moves T.F_checked_moves.kp (b_checked_moves T) (da_cons (de_var (pv 0)) (da_cons (de_var (pv 1)) da_nil)))))) (blkOk_by (own := [("move", 2)]) (by kernel_rfl)) (fun _ _ _ _ _ => (pg_name (i := 2) nd rfl (Or.inl rfl))) tgs_name rfl (fun _ _ _ _ _ _ => dts_nil) (fun _ _ _ _ _ _ => (de_call (Calls.of G_undone (hr.mono (by decide))) passE rfl T.g_undone T.F_undone.kp (b_undone T) (da_cons (de_var (pv 2)) da_nil)))))))
theorem ok__law_draw (T : Txt P w K mg) (TB : TbB T base) : FnOk P w K mg base (L2.CX P w) 1 T.A__law_draw T.D__law_draw ["script", "salt"] (spDraw (A0 T)) := by
  refine fnK_of (k := 0) T.F__law_draw sc__law_draw (fun vs H Q E h => ?_) fun Ar outer sh H vs Q E hr h => ⟨t_draw K ⟨K, none, (A0 T).T, (A0 T).cl, none⟩ ⟨fun _ => none, H, fun _ => False⟩ (fun _ => E), ?_, pure_draw h⟩
  · obtain ⟨a, ns, salt, rfl, _⟩ := h
    rfl
  · have hK : K = (⟨K, none, (A0 T).T, (A0 T).cl, none⟩ : Am).K := rfl
    have nd := sc__law_draw.nd
    have hu : (Ar.deeper (envOfC "_law_draw" (defScope st__law_draw) sh.heap.objs.size T.A__law_draw (.ref T.c__law_draw))).units + 65 < cLine := by have := hr.un; omega
    have hu4 : (Ar.deeper (envOfC "_law_draw" (defScope st__law_draw) sh.heap.objs.size T.A__law_draw (.ref T.c__law_draw))).units + 64 < cLine := by omega
    have hu6 : (Ar.deeper (envOfC "_law_draw" (defScope st__law_draw) sh.heap.objs.size T.A__law_draw (.ref T.c__law_draw))).units + 66 < cLine := by have := hr.un; omega
    have hu5 : (Ar.deeper (envOfC "_law_draw" (defScope st__law_draw) sh.heap.objs.size T.A__law_draw (.ref T.c__law_draw))).units + 3 + 65 < cLine := by have := hr.un; omega
    have hu9 : (Ar.deeper (envOfC "_law_draw" (defScope st__law_draw) sh.heap.objs.size T.A__law_draw (.ref T.c__law_draw))).units + 3 + 66 < cLine := by have := hr.un; omega
    have ho := passes_of (X := cxOf (L2.CX P w) P w K mg base ["script", "salt", "cells", "blend", "cell"] "_law_draw" (defScope st__law_draw) T.A__law_draw (.ref T.c__law_draw) Ar outer sh H E) rfl
    have tk : Takes (cxOf (L2.CX P w) P w K mg base ["script", "salt", "cells", "blend", "cell"] "_law_draw" (defScope st__law_draw) T.A__law_draw (.ref T.c__law_draw) Ar outer sh H E) (fun cls d _ H => E cls d H) := takes_of rfl rfl rfl rfl
    have hp : PassS (cxOf (L2.CX P w) P w K mg base ["script", "salt", "cells", "blend", "cell"] "_law_draw" (defScope st__law_draw) T.A__law_draw (.ref T.c__law_draw) Ar outer sh H E) (fun _ => E) := PassS.tk tk
    exact pss_cons (ps_draw1 (ps_setLc (i := 2) rfl nd rfl rfl rfl (pi_scr (by exact (pi_list (pe_slice sl_list (pv 0) po_none (po_some pe_int))))) (blkOk_by (own := [("cell", 4)]) (by kernel_rfl)) (fun _ _ _ _ _ => (pg_name (i := 4) nd rfl (Or.inl rfl))) (fun _ _ _ _ _ => ptsx fun _ => dts_nil) (fun _ _ _ _ _ => pex fun _ => de_b1 cd_abs rfl T.n_abs bt_abs (de_t1 cd_int rfl T.n_int bt_int (de_bor (pv 4))))))
      (pss_cons (ds_set (ps_set (i := 3) nd rfl (Or.inl rfl) (de_op od_add de_int (de_op od_mul de_int (de_bor (pv 1))))))
      (pss_cons (ds_for ho rfl (di_seq (de_var (pv 2))) (pg_name (i := 4) nd rfl (Or.inl rfl)) tgs_name (dss_one (ds_set (ps_set (i := 3) nd rfl (Or.inl rfl) (de_op od_mod (de_t1 cd_int rfl T.n_int bt_int (de_op od_add (de_op od_add (de_op od_mul (de_bor (pv 3)) de_int) (de_op od_mod (de_bor (pv 4)) de_int)) de_int)) de_int)))))
      (pss_one (ps_ret (pe_lst (pa_cons (pe_revL (de_lc rfl nd (by exact (di_seq (de_var (pv 2)))) (blkOk_by (own := [("cell", 4)]) (by kernel_rfl)) (fun _ _ _ _ _ => (pg_name (i := 4) nd rfl (Or.inl rfl))) tgs_name rfl (fun _ _ _ _ _ _ => dts_one (dt_cmp od_ge (de_bor (pv 4)) (de_op od_pow de_int de_int) (nomark _))) (fun _ _ _ _ _ _ => de_var (pv 4)))) (pa_cons (pv 3) pa_nil)))))))
theorem ok__law_any (T : Txt P w K mg) (TB : TbB T base) (hA : Like A (A0 T)) : FnOk P w K mg base (L2.CX P w) 1 T.A__law_any T.D__law_any ["deal", "bound"] (spD A 2 F__law_any) := by
  refine FnOk.weak (def_okC (A := A) (s := f__law_any) (k := 0) T.F__law_any sc__law_any rfl fun Ar outer sh H Hb E hr => ?_) (spD_le any_le)
  · have hK : K = A.K := hA.K.symm
    have nd := sc__law_any.nd
    have hu : (Ar.deeper (envOfC "_law_any" (defScope st__law_any) sh.heap.objs.size T.A__law_any (.ref T.c__law_any))).units + 65 < cLine := by have := hr.un; omega
    have hu4 : (Ar.deeper (envOfC "_law_any" (defScope st__law_any) sh.heap.objs.size T.A__law_any (.ref T.c__law_any))).units + 64 < cLine := by omega
    have hu6 : (Ar.deeper (envOfC "_law_any" (defScope st__law_any) sh.heap.objs.size T.A__law_any (.ref T.c__law_any))).units + 66 < cLine := by have := hr.un; omega
    have hu5 : (Ar.deeper (envOfC "_law_any" (defScope st__law_any) sh.heap.objs.size T.A__law_any (.ref T.c__law_any))).units + 3 + 65 < cLine := by have := hr.un; omega
    have hu9 : (Ar.deeper (envOfC "_law_any" (defScope st__law_any) sh.heap.objs.size T.A__law_any (.ref T.c__law_any))).units + 3 + 66 < cLine := by have := hr.un; omega
    have ho := passes_of (X := cxOf (L2.CX P w) P w K mg base ["deal", "bound", "rest"] "_law_any" (defScope st__law_any) T.A__law_any (.ref T.c__law_any) Ar outer sh H E) rfl
    have tk : Takes (cxOf (L2.CX P w) P w K mg base ["deal", "bound", "rest"] "_law_any" (defScope st__law_any) T.A__law_any (.ref T.c__law_any) Ar outer sh H E) (fun cls d _ H => E cls d H) := takes_of rfl rfl rfl rfl
    have hp : PassS (cxOf (L2.CX P w) P w K mg base ["deal", "bound", "rest"] "_law_any" (defScope st__law_any) T.A__law_any (.ref T.c__law_any) Ar outer sh H E) (fun _ => E) := PassS.tk tk
    exact dss_cons (ds_while (fuel := fuW) ho (dt_w (dw_and (dt_d0ne (pt_cmpR (op_neD hu4) (pe_ix ix_list (pv 0) pe_int (fun _ _ => rfl)) (pe_lst pa_nil) (nomark _))) (dw_and1 (dt_d0z (pt_cmpR (op_eqD hu4) (pe_ix ix_list (pe_ix ix_list (pv 0) pe_int (fun _ _ => rfl)) (pe_un un_neg pe_int) (fun _ _ => rfl)) pe_int (nomark _)))))) (dss_one (ds_d0pop (ps_expr (pe_bm0 PySem.F.plainAttrs_list PySem.F.slot_list_pop PySem.F.type_list_pop mt_pop (pe_ix ix_list (pv 0) pe_int (fun _ _ => rfl)))))))
      (dss_cons (ds_if (dt_d0ne (pt_cmpR (op_neD hu4) (pe_ix ix_list (pv 0) pe_int (fun _ _ => rfl)) (pe_lst pa_nil) (nomark _))) (dss_cons (ds_d0popI (ps_set (i := 2) nd rfl (Or.inl rfl) (pe_callTy call_int1 rfl T.n_int bt_int (pa_cons (pe_bm0 PySem.F.plainAttrs_list PySem.F.slot_list_pop PySem.F.type_list_pop mt_pop (pe_ix ix_list (pv 0) pe_int (fun _ _ => rfl))) pa_nil)))) (dss_cons (ds_d0app (ps_expr (pe_bm PySem.F.plainAttrs_list PySem.F.slot_list_append PySem.F.type_list_append mt_append (pe_ix ix_list (pv 0) pe_int (fun _ _ => rfl)) (pa_cons (de_op od_fdiv (de_bor (pv 2)) (de_bor (pv 1))) pa_nil)))) (dss_one (ds_ret (de_op od_mod (de_bor (pv 2)) (de_bor (pv 1))))))) dss_nil)
      (dss_cons (ds_d1 (ps_asg (de_op od_mod (de_t1 cd_int rfl T.n_int bt_int (de_op od_add (de_op od_mul (de_d1 (pe_ix ix_list (pv 0) pe_int (fun _ _ => rfl))) de_int) de_int)) de_int) (pg_sub (pv 0) pe_int set_list)))
      (dss_one (ds_ret (de_op od_mod (de_t1 cd_int rfl T.n_int bt_int (de_op od_fdiv (de_d1 (pe_ix ix_list (pv 0) pe_int (fun _ _ => rfl))) de_int)) (de_bor (pv 1)))))))
theorem ok__law_of (T : Txt P w K mg) (TB : TbB T base) (hA : Like A (A0 T)) : FnOk P w K mg base (L2.CX P w) 2 T.A__law_of T.D__law_of ["deal", "some"] (spD A 2 F__law_of) := by
  have G__law_any := ok__law_any (P := P) (w := w) (base := base) (A := A) T TB hA
  exact def_okC (k := 1) T.F__law_of sc__law_of rfl fun Ar outer sh H Hb E hr => by
    have hK : K = A.K := hA.K.symm
    have nd := sc__law_of.nd
    have hu : (Ar.deeper (envOfC "_law_of" (defScope st__law_of) sh.heap.objs.size T.A__law_of (.ref T.c__law_of))).units + 65 < cLine := by have := hr.un; omega
    have hu4 : (Ar.deeper (envOfC "_law_of" (defScope st__law_of) sh.heap.objs.size T.A__law_of (.ref T.c__law_of))).units + 64 < cLine := by omega
    have hu6 : (Ar.deeper (envOfC "_law_of" (defScope st__law_of) sh.heap.objs.size T.A__law_of (.ref T.c__law_of))).units + 66 < cLine := by have := hr.un; omega
    have hu5 : (Ar.deeper (envOfC "_law_of" (defScope st__law_of) sh.heap.objs.size T.A__law_of (.ref T.c__law_of))).units + 3 + 65 < cLine := by have := hr.un; omega
    have hu9 : (Ar.deeper (envOfC "_law_of" (defScope st__law_of) sh.heap.objs.size T.A__law_of (.ref T.c__law_of))).units + 3 + 66 < cLine := by have := hr.un; omega
    have ho := passes_of (X := cxOf (L2.CX P w) P w K mg base ["deal", "some"] "_law_of" (defScope st__law_of) T.A__law_of (.ref T.c__law_of) Ar outer sh H E) rfl
    have tk : Takes (cxOf (L2.CX P w) P w K mg base ["deal", "some"] "_law_of" (defScope st__law_of) T.A__law_of (.ref T.c__law_of) Ar outer sh H E) (fun cls d _ H => E cls d H) := takes_of rfl rfl rfl rfl
    have hp : PassS (cxOf (L2.CX P w) P w K mg base ["deal", "some"] "_law_of" (defScope st__law_of) T.A__law_of (.ref T.c__law_of) Ar outer sh H E) (fun _ => E) := PassS.tk tk
    exact (dss_one (ds_ret (de_ix hK (de_bor (pv 1)) (de_call (Calls.of G__law_any (hr.mono (by decide))) hp rfl T.g__law_any T.F__law_any.kp (b__law_any T) (da_cons (de_var (pv 0)) (da_cons (de_b1 cd_len rfl T.n_len bt_len (de_bor (pv 1))) da_nil))))))
theorem ok__law_large (T : Txt P w K mg) (TB : TbB T base) (hA : Like A (A0 T)) : FnOk P w K mg base (L2.CX P w) 2 T.A__law_large T.D__law_large ["deal", "bound"] (spD A 2 F__law_large) := by
  have G__law_any := ok__law_any (P := P) (w := w) (base := base) (A := A) T TB hA
  exact def_okC (k := 1) T.F__law_large sc__law_large rfl fun Ar outer sh H Hb E hr => by
    have hK : K = A.K := hA.K.symm
    have nd := sc__law_large.nd
    have hu : (Ar.deeper (envOfC "_law_large" (defScope st__law_large) sh.heap.objs.size T.A__law_large (.ref T.c__law_large))).units + 65 < cLine := by have := hr.un; omega
    have hu4 : (Ar.deeper (envOfC "_law_large" (defScope st__law_large) sh.heap.objs.size T.A__law_large (.ref T.c__law_large))).units + 64 < cLine := by omega
    have hu6 : (Ar.deeper (envOfC "_law_large" (defScope st__law_large) sh.heap.objs.size T.A__law_large (.ref T.c__law_large))).units + 66 < cLine := by have := hr.un; omega
    have hu5 : (Ar.deeper (envOfC "_law_large" (defScope st__law_large) sh.heap.objs.size T.A__law_large (.ref T.c__law_large))).units + 3 + 65 < cLine := by have := hr.un; omega
    have hu9 : (Ar.deeper (envOfC "_law_large" (defScope st__law_large) sh.heap.objs.size T.A__law_large (.ref T.c__law_large))).units + 3 + 66 < cLine := by have := hr.un; omega
    have ho := passes_of (X := cxOf (L2.CX P w) P w K mg base ["deal", "bound", "found", "turn"] "_law_large" (defScope st__law_large) T.A__law_large (.ref T.c__law_large) Ar outer sh H E) rfl
    have tk : Takes (cxOf (L2.CX P w) P w K mg base ["deal", "bound", "found", "turn"] "_law_large" (defScope st__law_large) T.A__law_large (.ref T.c__law_large) Ar outer sh H E) (fun cls d _ H => E cls d H) := takes_of rfl rfl rfl rfl
    have hp : PassS (cxOf (L2.CX P w) P w K mg base ["deal", "bound", "found", "turn"] "_law_large" (defScope st__law_large) T.A__law_large (.ref T.c__law_large) Ar outer sh H E) (fun _ => E) := PassS.tk tk
    exact (dss_cons (ds_if (dt_cmp od_le (de_bor (pv 1)) de_int (nomark _)) (dss_one (ds_ret (de_call (Calls.of G__law_any (hr.mono (by decide))) hp rfl T.g__law_any T.F__law_any.kp (b__law_any T) (da_cons (de_var (pv 0)) (da_cons (de_var (pv 1)) da_nil))))) dss_nil) (dss_cons (ds_set (ps_set (i := 2) nd rfl (Or.inl rfl) de_int)) (dss_cons (ds_for ho rfl (di_range1 rfl T.n_range de_int) (pg_name (i := 3) nd rfl (Or.inl rfl)) tgs_name (dss_one (ds_set (ps_set (i := 2) nd rfl (Or.inl rfl) (de_op od_add (de_op od_mul (de_bor (pv 2)) de_int) (de_call (Calls.of G__law_any (hr.mono (by decide))) hp rfl T.g__law_any T.F__law_any.kp (b__law_any T) (da_cons (de_var (pv 0)) (da_cons de_int da_nil)))))))) (dss_one (ds_ret (de_op od_mod (de_t1 cd_int rfl T.n_int bt_int (de_bor (pv 2))) (de_bor (pv 1))))))))
theorem ok__law_some (T : Txt P w K mg) (TB : TbB T base) (hA : Like A (A0 T)) : FnOk P w K mg base (L2.CX P w) 3 T.A__law_some T.D__law_some ["deal", "bound"] (spD A 2 F__law_some) := by
  have G__law_any := ok__law_any (P := P) (w := w) (base := base) (A := A) T TB hA
  have G__law_large := ok__law_large (P := P) (w := w) (base := base) (A := A) T TB hA
  exact def_okC (k := 2) T.F__law_some sc__law_some rfl fun Ar outer sh H Hb E hr => by
    have hK : K = A.K := hA.K.symm
    have nd := sc__law_some.nd
    have hu : (Ar.deeper (envOfC "_law_some" (defScope st__law_some) sh.heap.objs.size T.A__law_some (.ref T.c__law_some))).units + 65 < cLine := by have := hr.un; omega
    have hu4 : (Ar.deeper (envOfC "_law_some" (defScope st__law_some) sh.heap.objs.size T.A__law_some (.ref T.c__law_some))).units + 64 < cLine := by omega
    have hu6 : (Ar.deeper (envOfC "_law_some" (defScope st__law_some) sh.heap.objs.size T.A__law_some (.ref T.c__law_some))).units + 66 < cLine := by have := hr.un; omega
    have hu5 : (Ar.deeper (envOfC "_law_some" (defScope st__law_some) sh.heap.objs.size T.A__law_some (.ref T.c__law_some))).units + 3 + 65 < cLine := by have := hr.un; omega
    have hu9 : (Ar.deeper (envOfC "_law_some" (defScope st__law_some) sh.heap.objs.size T.A__law_some (.ref T.c__law_some))).units + 3 + 66 < cLine := by have := hr.un; omega
    have ho := passes_of (X := cxOf (L2.CX P w) P w K mg base ["deal", "bound", "form"] "_law_some" (defScope st__law_some) T.A__law_some (.ref T.c__law_some) Ar outer sh H E) rfl
    have tk : Takes (cxOf (L2.CX P w) P w K mg base ["deal", "bound", "form"] "_law_some" (defScope st__law_some) T.A__law_some (.ref T.c__law_some) Ar outer sh H E) (fun cls d _ H => E cls d H) := takes_of rfl rfl rfl rfl
    have hp : PassS (cxOf (L2.CX P w) P w K mg base ["deal", "bound", "form"] "_law_some" (defScope st__law_some) T.A__law_some (.ref T.c__law_some) Ar outer sh H E) (fun _ => E) := PassS.tk tk
    exact (dss_cons (ds_set (ps_set (i := 2) nd rfl (Or.inl rfl) (de_call (Calls.of G__law_any (hr.mono (by decide))) hp rfl T.g__law_any T.F__law_any.kp (b__law_any T) (da_cons (de_var (pv 0)) (da_cons de_int da_nil))))) (dss_cons (ds_if (dt_cmp (od_eq hK hu4) (de_bor (pv 2)) de_int (nomark _)) (dss_one (ds_ret (de_b2 (cd_min2 rfl) rfl T.n_min bt_min (de_op od_sub (de_bor (pv 1)) de_int) (de_call (Calls.of G__law_any (hr.mono (by decide))) hp rfl T.g__law_any T.F__law_any.kp (b__law_any T) (da_cons (de_var (pv 0)) (da_cons de_int da_nil)))))) dss_nil) (dss_cons (ds_if (dt_cmp (od_eq hK hu4) (de_bor (pv 2)) de_int (nomark _)) (dss_one (ds_ret (de_b2 (cd_max2 rfl) rfl T.n_max bt_max de_int (de_op od_sub (de_op od_sub (de_bor (pv 1)) de_int) (de_call (Calls.of G__law_any (hr.mono (by decide))) hp rfl T.g__law_any T.F__law_any.kp (b__law_any T) (da_cons (de_var (pv 0)) (da_cons de_int da_nil))))))) dss_nil) (dss_one (ds_ret (de_call (Calls.of G__law_large (hr.mono (by decide))) hp rfl T.g__law_large T.F__law_large.kp (b__law_large T) (da_cons (de_var (pv 0)) (da_cons (de_var (pv 1)) da_nil))))))))
theorem ok__law_divisor (T : Txt P w K mg) (TB : TbB T base) (hA : Like A (A0 T)) : FnOk P w K mg base (L2.CX P w) 1 T.A__law_divisor T.D__law_divisor ["one", "other"] (spD A 2 F__law_divisor) := by
  exact def_okC (k := 0) T.F__law_divisor sc__law_divisor rfl fun Ar outer sh H Hb E hr => by
    have hK : K = A.K := hA.K.symm
    have nd := sc__law_divisor.nd
    have hu : (Ar.deeper (envOfC "_law_divisor" (defScope st__law_divisor) sh.heap.objs.size T.A__law_divisor (.ref T.c__law_divisor))).units + 65 < cLine := by have := hr.un; omega
    have hu4 : (Ar.deeper (envOfC "_law_divisor" (defScope st__law_divisor) sh.heap.objs.size T.A__law_divisor (.ref T.c__law_divisor))).units + 64 < cLine := by omega
    have hu6 : (Ar.deeper (envOfC "_law_divisor" (defScope st__law_divisor) sh.heap.objs.size T.A__law_divisor (.ref T.c__law_divisor))).units + 66 < cLine := by have := hr.un; omega
    have hu5 : (Ar.deeper (envOfC "_law_divisor" (defScope st__law_divisor) sh.heap.objs.size T.A__law_divisor (.ref T.c__law_divisor))).units + 3 + 65 < cLine := by have := hr.un; omega
    have hu9 : (Ar.deeper (envOfC "_law_divisor" (defScope st__law_divisor) sh.heap.objs.size T.A__law_divisor (.ref T.c__law_divisor))).units + 3 + 66 < cLine := by have := hr.un; omega
    have ho := passes_of (X := cxOf (L2.CX P w) P w K mg base ["one", "other"] "_law_divisor" (defScope st__law_divisor) T.A__law_divisor (.ref T.c__law_divisor) Ar outer sh H E) rfl
    have tk : Takes (cxOf (L2.CX P w) P w K mg base ["one", "other"] "_law_divisor" (defScope st__law_divisor) T.A__law_divisor (.ref T.c__law_divisor) Ar outer sh H E) (fun cls d _ H => E cls d H) := takes_of rfl rfl rfl rfl
    have hp : PassS (cxOf (L2.CX P w) P w K mg base ["one", "other"] "_law_divisor" (defScope st__law_divisor) T.A__law_divisor (.ref T.c__law_divisor) Ar outer sh H E) (fun _ => E) := PassS.tk tk
    exact (dss_cons (ds_while (fuel := (fuI 1)) ho (dt_cmp od_gt (de_bor (pv 1)) de_int (nomark _)) (dss_one (ds_par (i := 0) (j := 1) rfl nd rfl rfl (by decide) rfl rfl (de_var (pv 1)) (fun _ => (de_op od_mod (de_t1 cd_int rfl T.n_int bt_int (de_bor (pv 0))) (de_bor (pv 1)))) rfl))) (dss_one (ds_ret (de_mov (pv 0)))))
theorem ok__law_move (T : Txt P w K mg) (TB : TbB T base) (hA : Like A (A0 T)) : FnOk P w K mg base (L2.CX P w) 4 T.A__law_move T.D__law_move ["deal", "places", "names"] (spD A 3 F__law_move) := by
  have G__law_any := ok__law_any (P := P) (w := w) (base := base) (A := A) T TB hA
  have G__law_divisor := ok__law_divisor (P := P) (w := w) (base := base) (A := A) T TB hA
  have G__law_of := ok__law_of (P := P) (w := w) (base := base) (A := A) T TB hA
  have G__law_some := ok__law_some (P := P) (w := w) (base := base) (A := A) T TB hA
  exact def_okC (k := 3) T.F__law_move sc__law_move rfl fun Ar outer sh H Hb E hr => by
    have hK : K = A.K := hA.K.symm
    have nd := sc__law_move.nd
    have hu : (Ar.deeper (envOfC "_law_move" (defScope st__law_move) sh.heap.objs.size T.A__law_move (.ref T.c__law_move))).units + 65 < cLine := by have := hr.un; omega
    have hu4 : (Ar.deeper (envOfC "_law_move" (defScope st__law_move) sh.heap.objs.size T.A__law_move (.ref T.c__law_move))).units + 64 < cLine := by omega
    have hu6 : (Ar.deeper (envOfC "_law_move" (defScope st__law_move) sh.heap.objs.size T.A__law_move (.ref T.c__law_move))).units + 66 < cLine := by have := hr.un; omega
    have hu5 : (Ar.deeper (envOfC "_law_move" (defScope st__law_move) sh.heap.objs.size T.A__law_move (.ref T.c__law_move))).units + 3 + 65 < cLine := by have := hr.un; omega
    have hu9 : (Ar.deeper (envOfC "_law_move" (defScope st__law_move) sh.heap.objs.size T.A__law_move (.ref T.c__law_move))).units + 3 + 66 < cLine := by have := hr.un; omega
    have ho := passes_of (X := cxOf (L2.CX P w) P w K mg base ["deal", "places", "names", "name", "single", "at", "room", "u", "v", "w", "r", "c", "n", "a", "turn", "move"] "_law_move" (defScope st__law_move) T.A__law_move (.ref T.c__law_move) Ar outer sh H E) rfl
    have tk : Takes (cxOf (L2.CX P w) P w K mg base ["deal", "places", "names", "name", "single", "at", "room", "u", "v", "w", "r", "c", "n", "a", "turn", "move"] "_law_move" (defScope st__law_move) T.A__law_move (.ref T.c__law_move) Ar outer sh H E) (fun cls d _ H => E cls d H) := takes_of rfl rfl rfl rfl
    have hp : PassS (cxOf (L2.CX P w) P w K mg base ["deal", "places", "names", "name", "single", "at", "room", "u", "v", "w", "r", "c", "n", "a", "turn", "move"] "_law_move" (defScope st__law_move) T.A__law_move (.ref T.c__law_move) Ar outer sh H E) (fun _ => E) := PassS.tk tk
    exact (dss_cons (ds_set (ps_set (i := 3) nd rfl (Or.inl rfl) (de_call (Calls.of G__law_of (hr.mono (by decide))) hp rfl T.g__law_of T.F__law_of.kp (b__law_of T) (da_cons (de_var (pv 0)) (da_cons (de_var (pv 2)) da_nil))))) (dss_cons (ds_if (dt_cmp (od_eq hK hu4) (de_bor (pv 1)) de_int (nomark _)) (dss_cons (ds_set (ps_set (i := 4) nd rfl (Or.inl rfl) (de_lst (da_cons (de_tup (da_cons de_str (da_cons de_int (da_cons de_int da_nil)))) (da_cons (de_tup (da_cons de_str (da_cons de_int (da_cons de_int (da_cons de_int da_nil))))) (da_cons (de_tup (da_cons de_str (da_cons de_int (da_cons de_int (da_cons de_int da_nil))))) (da_cons (de_tup (da_cons de_str (da_cons de_int (da_cons de_int (da_cons de_int da_nil))))) da_nil))))))) (dss_one (ds_ret (de_call (Calls.of G__law_of (hr.mono (by decide))) hp rfl T.g__law_of T.F__law_of.kp (b__law_of T) (da_cons (de_var (pv 0)) (da_cons (de_lc rfl nd (by exact (di_seq (de_var (pv 4)))) (blkOk_by (own := [("move", 15)]) (by kernel_rfl)) (fun _ _ _ _ _ => (pg_name (i := 15) nd rfl (Or.inl rfl))) tgs_name rfl (fun _ _ _ _ _ _ => (dts_one (dt_cmp (od_in hK hu) (de_ix hK (de_bor (pv 15)) de_int) (de_bor (pv 2)) (by with_unfolding_all rfl)))) (fun _ _ _ _ _ _ => (de_var (pv 15)))) da_nil)))))) dss_nil) (dss_cons (ds_set (ps_set (i := 5) nd rfl (Or.inl rfl) (de_call (Calls.of G__law_some (hr.mono (by decide))) hp rfl T.g__law_some T.F__law_some.kp (b__law_some T) (da_cons (de_var (pv 0)) (da_cons (de_op od_sub (de_bor (pv 1)) de_int) da_nil))))) (dss_cons (ds_set (ps_set (i := 6) nd rfl (Or.inl rfl) (de_op od_sub (de_bor (pv 1)) (de_bor (pv 5))))) (dss_cons (ds_if (dt_cmp (od_eq hK hu4) (de_bor (pv 3)) de_str (nomark _)) (dss_cons (ds_set (ps_set (i := 7) nd rfl (Or.inl rfl) (de_op od_add de_int (de_call (Calls.of G__law_some (hr.mono (by decide))) hp rfl T.g__law_some T.F__law_some.kp (b__law_some T) (da_cons (de_var (pv 0)) (da_cons (de_op od_sub (de_bor (pv 6)) de_int) da_nil)))))) (dss_cons (ds_set (ps_set (i := 8) nd rfl (Or.inl rfl) (de_op od_add de_int (de_call (Calls.of G__law_some (hr.mono (by decide))) hp rfl T.g__law_some T.F__law_some.kp (b__law_some T) (da_cons (de_var (pv 0)) (da_cons (de_op od_sub (de_bor (pv 6)) (de_bor (pv 7))) da_nil)))))) (dss_cons (ds_set (ps_set (i := 9) nd rfl (Or.inl rfl) (de_if (dt_cmp (od_eq hK hu4) (de_call (Calls.of G__law_any (hr.mono (by decide))) hp rfl T.g__law_any T.F__law_any.kp (b__law_any T) (da_cons (de_var (pv 0)) (da_cons de_int da_nil))) de_int (nomark _)) (de_call (Calls.of G__law_some (hr.mono (by decide))) hp rfl T.g__law_some T.F__law_some.kp (b__law_some T) (da_cons (de_var (pv 0)) (da_cons (de_op od_add (de_op od_sub (de_op od_sub (de_bor (pv 6)) (de_bor (pv 7))) (de_bor (pv 8))) de_int) da_nil))) de_int))) (dss_one (ds_ret (de_tup (da_cons (de_var (pv 3)) (da_cons (de_var (pv 5)) (da_cons (de_var (pv 7)) (da_cons (de_var (pv 9)) (da_cons (de_var (pv 8)) da_nil))))))))))) dss_nil) (dss_cons (ds_if (dt_cmp (od_eq hK hu4) (de_bor (pv 3)) de_str (nomark _)) (dss_cons (ds_set (ps_set (i := 10) nd rfl (Or.inl rfl) (de_op od_add de_int (de_call (Calls.of G__law_any (hr.mono (by decide))) hp rfl T.g__law_any T.F__law_any.kp (b__law_any T) (da_cons (de_var (pv 0)) (da_cons (de_b2 (cd_min2 rfl) rfl T.n_min bt_min (de_bor (pv 6)) (de_call (Calls.of G__law_of (hr.mono (by decide))) hp rfl T.g__law_of T.F__law_of.kp (b__law_of T) (da_cons (de_var (pv 0)) (da_cons (de_lst (da_cons de_int (da_cons de_int (da_cons de_int da_nil)))) da_nil)))) da_nil)))))) (dss_cons (ds_set (ps_set (i := 11) nd rfl (Or.inl rfl) (de_op od_add de_int (de_call (Calls.of G__law_some (hr.mono (by decide))) hp rfl T.g__law_some T.F__law_some.kp (b__law_some T) (da_cons (de_var (pv 0)) (da_cons (de_op od_fdiv (de_bor (pv 6)) (de_bor (pv 10))) da_nil)))))) (dss_one (ds_ret (de_if (dt_cmp (od_eq hK hu4) (de_call (Calls.of G__law_any (hr.mono (by decide))) hp rfl T.g__law_any T.F__law_any.kp (b__law_any T) (da_cons (de_var (pv 0)) (da_cons de_int da_nil))) de_int (nomark _)) (de_tup (da_cons (de_var (pv 3)) (da_cons (de_var (pv 5)) (da_cons (de_var (pv 10)) (da_cons (de_var (pv 11)) da_nil))))) (de_tup (da_cons (de_var (pv 3)) (da_cons (de_var (pv 5)) (da_cons (de_var (pv 11)) (da_cons (de_var (pv 10)) da_nil)))))))))) dss_nil) (dss_cons (ds_set (ps_set (i := 12) nd rfl (Or.inl rfl) (de_op od_add de_int (de_call (Calls.of G__law_some (hr.mono (by decide))) hp rfl T.g__law_some T.F__law_some.kp (b__law_some T) (da_cons (de_var (pv 0)) (da_cons (de_var (pv 6)) da_nil)))))) (dss_cons (ds_if (dt_cmp (od_eq hK hu4) (de_bor (pv 3)) de_str (nomark _)) (dss_one (ds_ret (de_tup (da_cons (de_var (pv 3)) (da_cons (de_var (pv 5)) (da_cons (de_var (pv 12)) da_nil)))))) dss_nil) (dss_cons (ds_set (ps_set (i := 13) nd rfl (Or.inl rfl) (de_call (Calls.of G__law_some (hr.mono (by decide))) hp rfl T.g__law_some T.F__law_some.kp (b__law_some T) (da_cons (de_var (pv 0)) (da_cons (de_op od_add (de_op od_mul de_int (de_bor (pv 12))) de_int) da_nil))))) (dss_cons (ds_if (dt_cmp (od_eq hK hu4) (de_bor (pv 3)) de_str (nomark _)) (dss_one (ds_ret (de_tup (da_cons (de_var (pv 3)) (da_cons (de_var (pv 5)) (da_cons (de_var (pv 12)) (da_cons (de_var (pv 13)) da_nil))))))) dss_nil) (dss_cons (ds_for ho rfl (di_range1 rfl T.n_range de_int) (pg_name (i := 14) nd rfl (Or.inl rfl)) tgs_name (dss_cons (ds_if (dt_cmp (od_eq hK hu4) (de_call (Calls.of G__law_divisor (hr.mono (by decide))) hp rfl T.g__law_divisor T.F__law_divisor.kp (b__law_divisor T) (da_cons (de_var (pv 13)) (da_cons (de_var (pv 12)) da_nil))) de_int (nomark _)) (dss_one (ds_brk ps_break)) dss_nil) (dss_one (ds_set (ps_set (i := 13) nd rfl (Or.inl rfl) (de_op od_add (de_bor (pv 13)) de_int)))))) (dss_one (ds_ret (de_tup (da_cons (de_var (pv 3)) (da_cons (de_var (pv 5)) (da_cons (de_var (pv 12)) (da_cons (de_if (dt_cmp (od_eq hK hu4) (de_call (Calls.of G__law_divisor (hr.mono (by decide))) hp rfl T.g__law_divisor T.F__law_divisor.kp (b__law_divisor T) (da_cons (de_var (pv 13)) (da_cons (de_var (pv 12)) da_nil))) de_int (nomark _)) (de_var (pv 13)) de_int) da_nil))))))))))))))))))
theorem ok__law_size (T : Txt P w K mg) (TB : TbB T base) (hA : Like A (A0 T)) : FnOk P w K mg base (L2.CX P w) 1 T.A__law_size T.D__law_size ["move"] (spD A 1 F__law_size) := by
  exact def_okC (k := 0) T.F__law_size sc__law_size rfl fun Ar outer sh H Hb E hr => by
    have hK : K = A.K := hA.K.symm
    have nd := sc__law_size.nd
    have hu : (Ar.deeper (envOfC "_law_size" (defScope st__law_size) sh.heap.objs.size T.A__law_size (.ref T.c__law_size))).units + 65 < cLine := by have := hr.un; omega
    have hu4 : (Ar.deeper (envOfC "_law_size" (defScope st__law_size) sh.heap.objs.size T.A__law_size (.ref T.c__law_size))).units + 64 < cLine := by omega
    have hu6 : (Ar.deeper (envOfC "_law_size" (defScope st__law_size) sh.heap.objs.size T.A__law_size (.ref T.c__law_size))).units + 66 < cLine := by have := hr.un; omega
    have hu5 : (Ar.deeper (envOfC "_law_size" (defScope st__law_size) sh.heap.objs.size T.A__law_size (.ref T.c__law_size))).units + 3 + 65 < cLine := by have := hr.un; omega
    have hu9 : (Ar.deeper (envOfC "_law_size" (defScope st__law_size) sh.heap.objs.size T.A__law_size (.ref T.c__law_size))).units + 3 + 66 < cLine := by have := hr.un; omega
    have ho := passes_of (X := cxOf (L2.CX P w) P w K mg base ["move"] "_law_size" (defScope st__law_size) T.A__law_size (.ref T.c__law_size) Ar outer sh H E) rfl
    have tk : Takes (cxOf (L2.CX P w) P w K mg base ["move"] "_law_size" (defScope st__law_size) T.A__law_size (.ref T.c__law_size) Ar outer sh H E) (fun cls d _ H => E cls d H) := takes_of rfl rfl rfl rfl
    have hp : PassS (cxOf (L2.CX P w) P w K mg base ["move"] "_law_size" (defScope st__law_size) T.A__law_size (.ref T.c__law_size) Ar outer sh H E) (fun _ => E) := PassS.tk tk
    exact (dss_cons (ds_if (dt_cmp (od_eq hK hu4) (de_ix hK (de_bor (pv 0)) de_int) de_str (nomark _)) (dss_one (ds_ret (de_op od_add (de_op od_add (de_ix hK (de_bor (pv 0)) de_int) (de_ix hK (de_bor (pv 0)) de_int)) (de_ix hK (de_bor (pv 0)) de_int)))) dss_nil) (dss_one (ds_ret (de_if (dt_cmp (od_eq hK hu4) (de_ix hK (de_bor (pv 0)) de_int) de_str (nomark _)) (de_op od_mul (de_ix hK (de_bor (pv 0)) de_int) (de_ix hK (de_bor (pv 0)) de_int)) (de_ix hK (de_bor (pv 0)) de_int)))))
theorem ok__law_goes (T : Txt P w K mg) (TB : TbB T base) (hA : Like A (A0 T)) : FnOk P w K mg base (L2.CX P w) 2 T.A__law_goes T.D__law_goes ["move", "place"] (spD A 2 F__law_goes) := by
  have G__law_size := ok__law_size (P := P) (w := w) (base := base) (A := A) T TB hA
  exact def_okC (k := 1) T.F__law_goes sc__law_goes rfl fun Ar outer sh H Hb E hr => by
    have hK : K = A.K := hA.K.symm
    have nd := sc__law_goes.nd
    have hu : (Ar.deeper (envOfC "_law_goes" (defScope st__law_goes) sh.heap.objs.size T.A__law_goes (.ref T.c__law_goes))).units + 65 < cLine := by have := hr.un; omega
    have hu4 : (Ar.deeper (envOfC "_law_goes" (defScope st__law_goes) sh.heap.objs.size T.A__law_goes (.ref T.c__law_goes))).units + 64 < cLine := by omega
    have hu6 : (Ar.deeper (envOfC "_law_goes" (defScope st__law_goes) sh.heap.objs.size T.A__law_goes (.ref T.c__law_goes))).units + 66 < cLine := by have := hr.un; omega
    have hu5 : (Ar.deeper (envOfC "_law_goes" (defScope st__law_goes) sh.heap.objs.size T.A__law_goes (.ref T.c__law_goes))).units + 3 + 65 < cLine := by have := hr.un; omega
    have hu9 : (Ar.deeper (envOfC "_law_goes" (defScope st__law_goes) sh.heap.objs.size T.A__law_goes (.ref T.c__law_goes))).units + 3 + 66 < cLine := by have := hr.un; omega
    have ho := passes_of (X := cxOf (L2.CX P w) P w K mg base ["move", "place", "at", "i", "name", "u", "w", "v"] "_law_goes" (defScope st__law_goes) T.A__law_goes (.ref T.c__law_goes) Ar outer sh H E) rfl
    have tk : Takes (cxOf (L2.CX P w) P w K mg base ["move", "place", "at", "i", "name", "u", "w", "v"] "_law_goes" (defScope st__law_goes) T.A__law_goes (.ref T.c__law_goes) Ar outer sh H E) (fun cls d _ H => E cls d H) := takes_of rfl rfl rfl rfl
    have hp : PassS (cxOf (L2.CX P w) P w K mg base ["move", "place", "at", "i", "name", "u", "w", "v"] "_law_goes" (defScope st__law_goes) T.A__law_goes (.ref T.c__law_goes) Ar outer sh H E) (fun _ => E) := PassS.tk tk
    exact (dss_cons (ds_par (i := 2) (j := 3) rfl nd rfl rfl (by decide) rfl rfl (de_ix hK (de_bor (pv 0)) de_int) (fun _ => (de_op od_sub (de_bor (pv 1)) (de_ix hK (de_bor (pv 0)) de_int))) rfl) (dss_cons (ds_if (dt_w (dw_or (dt_cmp od_lt (de_bor (pv 3)) de_int (nomark _)) (dw_or1 (dt_cmp od_ge (de_bor (pv 3)) (de_call (Calls.of G__law_size (hr.mono (by decide))) hp rfl T.g__law_size T.F__law_size.kp (b__law_size T) (da_cons (de_var (pv 0)) da_nil)) (nomark _))))) (dss_one (ds_ret (de_mov (pv 1)))) dss_nil) (dss_cons (ds_if (dt_cmp (od_eq hK hu4) (de_ix hK (de_bor (pv 0)) de_int) de_str (nomark _)) (dss_cons (ds_asg (de_var (pv 0)) (pg_tup rfl (pgs_cons (pg_name (i := 4) nd rfl (Or.inl rfl)) (pgs_cons (pg_name (i := 2) nd rfl (Or.inl rfl)) (pgs_cons (pg_name (i := 5) nd rfl (Or.inl rfl)) (pgs_cons (pg_name (i := 6) nd rfl (Or.inl rfl)) (pgs_cons (pg_name (i := 7) nd rfl (Or.inl rfl)) pgs_nil)))))) (tgs_tup (tgs_cons tgs_name (tgs_cons tgs_name (tgs_cons tgs_name (tgs_cons tgs_name (tgs_cons tgs_name tgs_nil))))))) (dss_cons (ds_if (dt_cmp od_lt (de_bor (pv 3)) (de_bor (pv 5)) (nomark _)) (dss_one (ds_ret (de_op od_add (de_op od_add (de_op od_add (de_bor (pv 2)) (de_bor (pv 7))) (de_bor (pv 6))) (de_bor (pv 3))))) dss_nil) (dss_one (ds_ret (de_if (dt_cmp od_lt (de_bor (pv 3)) (de_op od_add (de_bor (pv 5)) (de_bor (pv 6))) (nomark _)) (de_op od_add (de_op od_add (de_bor (pv 2)) (de_bor (pv 7))) (de_op od_sub (de_bor (pv 3)) (de_bor (pv 5)))) (de_op od_add (de_bor (pv 2)) (de_op od_sub (de_op od_sub (de_bor (pv 3)) (de_bor (pv 5))) (de_bor (pv 6))))))))) dss_nil) (dss_cons (ds_if (dt_cmp (od_eq hK hu4) (de_ix hK (de_bor (pv 0)) de_int) de_str (nomark _)) (dss_one (ds_ret (de_op od_add (de_bor (pv 2)) (de_op od_mod (de_t1 cd_int rfl T.n_int bt_int (de_op od_add (de_bor (pv 3)) (de_ix hK (de_bor (pv 0)) de_int))) (de_ix hK (de_bor (pv 0)) de_int))))) dss_nil) (dss_cons (ds_if (dt_cmp (od_eq hK hu4) (de_ix hK (de_bor (pv 0)) de_int) de_str (nomark _)) (dss_one (ds_ret (de_op od_sub (de_op od_sub (de_op od_add (de_bor (pv 2)) (de_ix hK (de_bor (pv 0)) de_int)) de_int) (de_bor (pv 3))))) dss_nil) (dss_cons (ds_if (dt_cmp (od_eq hK hu4) (de_ix hK (de_bor (pv 0)) de_int) de_str (nomark _)) (dss_one (ds_ret (de_op od_add (de_op od_add (de_bor (pv 2)) (de_op od_mul (de_op od_mod (de_t1 cd_int rfl T.n_int bt_int (de_bor (pv 3))) (de_ix hK (de_bor (pv 0)) de_int)) (de_ix hK (de_bor (pv 0)) de_int))) (de_op od_fdiv (de_bor (pv 3)) (de_ix hK (de_bor (pv 0)) de_int))))) dss_nil) (dss_one (ds_ret (de_op od_add (de_bor (pv 2)) (de_op od_mod (de_t1 cd_int rfl T.n_int bt_int (de_op od_mul (de_bor (pv 3)) (de_ix hK (de_bor (pv 0)) de_int))) (de_ix hK (de_bor (pv 0)) de_int)))))))))))
theorem ok__law_led (T : Txt P w K mg) (TB : TbB T base) (hA : Like A (A0 T)) : FnOk P w K mg base (L2.CX P w) 3 T.A__law_led T.D__law_led ["moves", "place"] (spD A 2 F__law_led) := by
  have G__law_goes := ok__law_goes (P := P) (w := w) (base := base) (A := A) T TB hA
  exact def_okC (k := 2) T.F__law_led sc__law_led rfl fun Ar outer sh H Hb E hr => by
    have hK : K = A.K := hA.K.symm
    have nd := sc__law_led.nd
    have hu : (Ar.deeper (envOfC "_law_led" (defScope st__law_led) sh.heap.objs.size T.A__law_led (.ref T.c__law_led))).units + 65 < cLine := by have := hr.un; omega
    have hu4 : (Ar.deeper (envOfC "_law_led" (defScope st__law_led) sh.heap.objs.size T.A__law_led (.ref T.c__law_led))).units + 64 < cLine := by omega
    have hu6 : (Ar.deeper (envOfC "_law_led" (defScope st__law_led) sh.heap.objs.size T.A__law_led (.ref T.c__law_led))).units + 66 < cLine := by have := hr.un; omega
    have hu5 : (Ar.deeper (envOfC "_law_led" (defScope st__law_led) sh.heap.objs.size T.A__law_led (.ref T.c__law_led))).units + 3 + 65 < cLine := by have := hr.un; omega
    have hu9 : (Ar.deeper (envOfC "_law_led" (defScope st__law_led) sh.heap.objs.size T.A__law_led (.ref T.c__law_led))).units + 3 + 66 < cLine := by have := hr.un; omega
    have ho := passes_of (X := cxOf (L2.CX P w) P w K mg base ["moves", "place", "move"] "_law_led" (defScope st__law_led) T.A__law_led (.ref T.c__law_led) Ar outer sh H E) rfl
    have tk : Takes (cxOf (L2.CX P w) P w K mg base ["moves", "place", "move"] "_law_led" (defScope st__law_led) T.A__law_led (.ref T.c__law_led) Ar outer sh H E) (fun cls d _ H => E cls d H) := takes_of rfl rfl rfl rfl
    have hp : PassS (cxOf (L2.CX P w) P w K mg base ["moves", "place", "move"] "_law_led" (defScope st__law_led) T.A__law_led (.ref T.c__law_led) Ar outer sh H E) (fun _ => E) := PassS.tk tk
    exact (dss_cons (ds_for ho rfl (di_seq (de_var (pv 0))) (pg_name (i := 2) nd rfl (Or.inl rfl)) tgs_name (dss_one (ds_set (ps_set (i := 1) nd rfl (Or.inl rfl) (de_call (Calls.of G__law_goes (hr.mono (by decide))) hp rfl T.g__law_goes T.F__law_goes.kp (b__law_goes T) (da_cons (de_var (pv 2)) (da_cons (de_var (pv 1)) da_nil))))))) (dss_one (ds_ret (de_mov (pv 1)))))
theorem ok__law_done (T : Txt P w K mg) (TB : TbB T base) (hA : Like A (A0 T)) : FnOk P w K mg base (L2.CX P w) 2 T.A__law_done T.D__law_done ["moves", "places"] (spD A 2 F__law_done) := by
  have G__law_size := ok__law_size (P := P) (w := w) (base := base) (A := A) T TB hA
  exact def_okC (k := 1) T.F__law_done sc__law_done rfl fun Ar outer sh H Hb E hr => by
    have hK : K = A.K := hA.K.symm
    have nd := sc__law_done.nd
    have hu : (Ar.deeper (envOfC "_law_done" (defScope st__law_done) sh.heap.objs.size T.A__law_done (.ref T.c__law_done))).units + 65 < cLine := by have := hr.un; omega
    have hu4 : (Ar.deeper (envOfC "_law_done" (defScope st__law_done) sh.heap.objs.size T.A__law_done (.ref T.c__law_done))).units + 64 < cLine := by omega
    have hu6 : (Ar.deeper (envOfC "_law_done" (defScope st__law_done) sh.heap.objs.size T.A__law_done (.ref T.c__law_done))).units + 66 < cLine := by have := hr.un; omega
    have hu5 : (Ar.deeper (envOfC "_law_done" (defScope st__law_done) sh.heap.objs.size T.A__law_done (.ref T.c__law_done))).units + 3 + 65 < cLine := by have := hr.un; omega
    have hu9 : (Ar.deeper (envOfC "_law_done" (defScope st__law_done) sh.heap.objs.size T.A__law_done (.ref T.c__law_done))).units + 3 + 66 < cLine := by have := hr.un; omega
    have ho := passes_of (X := cxOf (L2.CX P w) P w K mg base ["moves", "places", "row", "move", "at", "size", "part", "name", "u", "w", "v", "later", "shift", "r", "c", "i", "entry", "p", "place", "k"] "_law_done" (defScope st__law_done) T.A__law_done (.ref T.c__law_done) Ar outer sh H E) rfl
    have tk : Takes (cxOf (L2.CX P w) P w K mg base ["moves", "places", "row", "move", "at", "size", "part", "name", "u", "w", "v", "later", "shift", "r", "c", "i", "entry", "p", "place", "k"] "_law_done" (defScope st__law_done) T.A__law_done (.ref T.c__law_done) Ar outer sh H E) (fun cls d _ H => E cls d H) := takes_of rfl rfl rfl rfl
    have hp : PassS (cxOf (L2.CX P w) P w K mg base ["moves", "places", "row", "move", "at", "size", "part", "name", "u", "w", "v", "later", "shift", "r", "c", "i", "entry", "p", "place", "k"] "_law_done" (defScope st__law_done) T.A__law_done (.ref T.c__law_done) Ar outer sh H E) (fun _ => E) := PassS.tk tk
    exact (dss_cons (ds_set (ps_set (i := 2) nd rfl (Or.inl rfl) (de_listRg rfl rfl T.n_list rfl T.n_range (de_bor (pv 1))))) (dss_cons (ds_for ho rfl (di_seq (de_var (pv 0))) (pg_name (i := 3) nd rfl (Or.inl rfl)) tgs_name (dss_cons (ds_par (i := 4) (j := 5) rfl nd rfl rfl (by decide) rfl rfl (de_ix hK (de_bor (pv 3)) de_int) (fun _ => (de_call (Calls.of G__law_size (hr.mono (by decide))) hp rfl T.g__law_size T.F__law_size.kp (b__law_size T) (da_cons (de_var (pv 3)) da_nil))) rfl) (dss_cons (ds_set (ps_set (i := 6) nd rfl (Or.inr rfl) (de_sl hK (de_bor (pv 2)) (do_some (de_bor (pv 4))) (do_some (de_op od_add (de_bor (pv 4)) (de_bor (pv 5))))))) (dss_cons (ds_if (dt_cmp (od_eq hK hu4) (de_ix hK (de_bor (pv 3)) de_int) de_str (nomark _)) (dss_cons (ds_asg (de_var (pv 3)) (pg_tup rfl (pgs_cons (pg_name (i := 7) nd rfl (Or.inl rfl)) (pgs_cons (pg_name (i := 4) nd rfl (Or.inl rfl)) (pgs_cons (pg_name (i := 8) nd rfl (Or.inl rfl)) (pgs_cons (pg_name (i := 9) nd rfl (Or.inl rfl)) (pgs_cons (pg_name (i := 10) nd rfl (Or.inl rfl)) pgs_nil)))))) (tgs_tup (tgs_cons tgs_name (tgs_cons tgs_name (tgs_cons tgs_name (tgs_cons tgs_name (tgs_cons tgs_name tgs_nil))))))) (dss_one (ds_set (ps_set (i := 11) nd rfl (Or.inl rfl) (de_op od_add (de_op od_add (de_sl hK (de_bor (pv 6)) (do_some (de_op od_add (de_bor (pv 8)) (de_bor (pv 9)))) do_none) (de_sl hK (de_bor (pv 6)) (do_some (de_bor (pv 8))) (do_some (de_op od_add (de_bor (pv 8)) (de_bor (pv 9)))))) (de_sl hK (de_bor (pv 6)) do_none (do_some (de_bor (pv 8))))))))) (dss_one (ds_if (dt_cmp (od_eq hK hu4) (de_ix hK (de_bor (pv 3)) de_int) de_str (nomark _)) (dss_cons (ds_set (ps_set (i := 12) nd rfl (Or.inl rfl) (de_op od_mod (de_t1 cd_int rfl T.n_int bt_int (de_ix hK (de_bor (pv 3)) de_int)) (de_bor (pv 5))))) (dss_one (ds_set (ps_set (i := 11) nd rfl (Or.inl rfl) (de_op od_add (de_sl hK (de_bor (pv 6)) (do_some (de_op od_sub (de_bor (pv 5)) (de_bor (pv 12)))) do_none) (de_sl hK (de_bor (pv 6)) do_none (do_some (de_op od_sub (de_bor (pv 5)) (de_bor (pv 12)))))))))) (dss_one (ds_if (dt_cmp (od_eq hK hu4) (de_ix hK (de_bor (pv 3)) de_int) de_str (nomark _)) (dss_one (ds_set (ps_set (i := 11) nd rfl (Or.inl rfl) (de_rev hK (de_bor (pv 6)))))) (dss_one (ds_if (dt_cmp (od_eq hK hu4) (de_ix hK (de_bor (pv 3)) de_int) de_str (nomark _)) (dss_cons (ds_parT rfl (by decide) (pg_name (i := 13) nd rfl (Or.inr rfl)) (pg_name (i := 14) nd rfl (Or.inr rfl)) (de_ix hK (de_bor (pv 3)) de_int) (fun _ => (de_ix hK (de_bor (pv 3)) de_int)) rfl) (dss_one (ds_setLc (i := 11) rfl nd rfl rfl rfl (by exact (di_range1 rfl T.n_range (de_bor (pv 5)))) (blkOk_by (own := [("k", 19)]) (by kernel_rfl)) (fun _ _ _ _ _ => (pg_name (i := 19) nd rfl (Or.inl rfl))) tgs_name rfl (fun _ _ _ _ _ _ => dts_nil) (fun _ _ _ _ _ _ => (de_ix hK (de_bor (pv 6)) (de_op od_add (de_op od_mul (de_op od_mod (de_t1 cd_int rfl T.n_int bt_int (de_bor (pv 19))) (de_bor (pv 13))) (de_bor (pv 14))) (de_op od_fdiv (de_bor (pv 19)) (de_bor (pv 13))))))))) (dss_cons (ds_set (ps_set (i := 11) nd rfl (Or.inl rfl) (de_op od_mul (de_lst (da_cons de_int da_nil)) (de_bor (pv 5))))) (dss_one (ds_for ho rfl (di_en rfl T.n_enumerate (da_cons (de_var (pv 6)) da_nil)) (pg_tup rfl (pgs_cons (pg_name (i := 15) nd rfl (Or.inl rfl)) (pgs_cons (pg_name (i := 16) nd rfl (Or.inl rfl)) pgs_nil))) (tgs_tup (tgs_cons tgs_name (tgs_cons tgs_name tgs_nil))) (dss_one (ds_putI (ps_asg (de_var (pv 16)) (pg_sub (pv 11) (de_op od_mod (de_t1 cd_int rfl T.n_int bt_int (de_op od_mul (de_bor (pv 15)) (de_ix hK (de_bor (pv 3)) de_int))) (de_bor (pv 5))) set_list)))))))))))))) (dss_one (ds_set (ps_set (i := 2) nd rfl (Or.inl rfl) (de_op od_add (de_op od_add (de_sl hK (de_bor (pv 2)) do_none (do_some (de_bor (pv 4)))) (de_bor (pv 11))) (de_sl hK (de_bor (pv 2)) (do_some (de_op od_add (de_bor (pv 4)) (de_bor (pv 5)))) do_none))))))))) (dss_cons (ds_set (ps_set (i := 17) nd rfl (Or.inl rfl) (de_op od_mul (de_lst (da_cons de_int da_nil)) (de_bor (pv 1))))) (dss_cons (ds_for ho rfl (di_en rfl T.n_enumerate (da_cons (de_var (pv 2)) da_nil)) (pg_tup rfl (pgs_cons (pg_name (i := 18) nd rfl (Or.inl rfl)) (pgs_cons (pg_name (i := 16) nd rfl (Or.inl rfl)) pgs_nil))) (tgs_tup (tgs_cons tgs_name (tgs_cons tgs_name tgs_nil))) (dss_one (ds_putI (ps_asg (de_var (pv 18)) (pg_sub (pv 17) (de_bor (pv 16)) set_list))))) (dss_one (ds_ret (de_t1 cd_tuple rfl T.n_tuple bt_tuple (de_bor (pv 17)))))))))
theorem ok__law_undone (T : Txt P w K mg) (TB : TbB T base) (hA : Like A (A0 T)) : FnOk P w K mg base (L2.CX P w) 1 T.A__law_undone T.D__law_undone ["move", "told"] (spD A 2 F__law_undone) := by
  exact def_okC (k := 0) T.F__law_undone sc__law_undone rfl fun Ar outer sh H Hb E hr => by
    have hK : K = A.K := hA.K.symm
    have nd := sc__law_undone.nd
    have hu : (Ar.deeper (envOfC "_law_undone" (defScope st__law_undone) sh.heap.objs.size T.A__law_undone (.ref T.c__law_undone))).units + 65 < cLine := by have := hr.un; omega
    have hu4 : (Ar.deeper (envOfC "_law_undone" (defScope st__law_undone) sh.heap.objs.size T.A__law_undone (.ref T.c__law_undone))).units + 64 < cLine := by omega
    have hu6 : (Ar.deeper (envOfC "_law_undone" (defScope st__law_undone) sh.heap.objs.size T.A__law_undone (.ref T.c__law_undone))).units + 66 < cLine := by have := hr.un; omega
    have hu5 : (Ar.deeper (envOfC "_law_undone" (defScope st__law_undone) sh.heap.objs.size T.A__law_undone (.ref T.c__law_undone))).units + 3 + 65 < cLine := by have := hr.un; omega
    have hu9 : (Ar.deeper (envOfC "_law_undone" (defScope st__law_undone) sh.heap.objs.size T.A__law_undone (.ref T.c__law_undone))).units + 3 + 66 < cLine := by have := hr.un; omega
    have ho := passes_of (X := cxOf (L2.CX P w) P w K mg base ["move", "told", "one"] "_law_undone" (defScope st__law_undone) T.A__law_undone (.ref T.c__law_undone) Ar outer sh H E) rfl
    have tk : Takes (cxOf (L2.CX P w) P w K mg base ["move", "told", "one"] "_law_undone" (defScope st__law_undone) T.A__law_undone (.ref T.c__law_undone) Ar outer sh H E) (fun cls d _ H => E cls d H) := takes_of rfl rfl rfl rfl
    have hp : PassS (cxOf (L2.CX P w) P w K mg base ["move", "told", "one"] "_law_undone" (defScope st__law_undone) T.A__law_undone (.ref T.c__law_undone) Ar outer sh H E) (fun _ => E) := PassS.tk tk
    exact (dss_cons (ds_if (dt_w (dw_or (dt_not (dt_tru hK (de_isi1 (t := .tuple) (u := .none) rfl T.n_isinstance rfl T.n_tuple bt_tuple (de_bor (pv 1))) (fun _ => rfl))) (dw_or (dt_cmp (od_ne hK hu4) (de_b1 cd_len rfl T.n_len bt_len (de_bor (pv 1))) (de_b1 cd_len rfl T.n_len bt_len (de_bor (pv 0))) (nomark _)) (dw_or1 (dt_cmp (od_ne hK hu4) (de_sl hK (de_bor (pv 1)) do_none (do_some de_int)) (de_sl hK (de_bor (pv 0)) do_none (do_some de_int)) (nomark _)))))) (dss_one (ds_ret de_bl)) dss_nil) (dss_cons (ds_if (dt_cmp (od_ne hK hu4) (de_lc rfl nd (by exact (di_seq (de_sl hK (de_bor (pv 1)) (do_some de_int) do_none))) (blkOk_by (own := [("one", 2)]) (by kernel_rfl)) (fun _ _ _ _ _ => (pg_name (i := 2) nd rfl (Or.inl rfl))) tgs_name rfl (fun _ _ _ _ _ _ => (dts_one (dt_w (dw_or (dt_not (dt_tru hK (de_isi1 (t := .int) (u := .none) rfl T.n_isinstance rfl T.n_int bt_int (de_bor (pv 2))) (fun _ => rfl))) (dw_or1 (dt_tru hK (de_isi1 (t := .bool) (u := .none) rfl T.n_isinstance rfl T.n_bool bt_bool (de_bor (pv 2))) (fun _ => rfl))))))) (fun _ _ _ _ _ _ => (de_var (pv 2)))) (de_lst da_nil) (nomark _)) (dss_one (ds_ret de_bl)) dss_nil) (dss_cons (ds_if (dt_cmp (od_eq hK hu4) (de_ix hK (de_bor (pv 0)) de_int) de_str (nomark _)) (dss_one (ds_ret (de_cmp (od_eq hK hu4) (de_sl hK (de_bor (pv 1)) (do_some de_int) do_none) (de_tup (da_cons (de_ix hK (de_bor (pv 0)) de_int) (da_cons (de_ix hK (de_bor (pv 0)) de_int) (da_cons (de_ix hK (de_bor (pv 0)) de_int) da_nil)))) (nomark _)))) dss_nil) (dss_cons (ds_if (dt_cmp (od_eq hK hu4) (de_ix hK (de_bor (pv 0)) de_int) de_str (nomark _)) (dss_one (ds_ret (de_cmp (od_eq hK hu4) (de_sl hK (de_bor (pv 1)) (do_some de_int) do_none) (de_tup (da_cons (de_ix hK (de_bor (pv 0)) de_int) (da_cons (de_ix hK (de_bor (pv 0)) de_int) da_nil))) (nomark _)))) dss_nil) (dss_cons (ds_if (dt_cmp (od_eq hK hu4) (de_ix hK (de_bor (pv 0)) de_int) de_str (nomark _)) (dss_one (ds_ret (de_cmp (od_eq hK hu4) (de_bor (pv 1)) (de_bor (pv 0)) (nomark _)))) dss_nil) (dss_cons (ds_if (dt_w (dw_or (dt_cmp (od_ne hK hu4) (de_ix hK (de_bor (pv 1)) de_int) (de_ix hK (de_bor (pv 0)) de_int) (nomark _)) (dw_or1 (dt_not (dt_chain od_le od_lt de_int (de_ix hK (de_bor (pv 1)) de_int) (de_ix hK (de_bor (pv 0)) de_int)))))) (dss_one (ds_ret de_bl)) dss_nil) (dss_cons (ds_if (dt_cmp (od_eq hK hu4) (de_ix hK (de_bor (pv 0)) de_int) de_str (nomark _)) (dss_one (ds_ret (de_cmp (od_eq hK hu4) (de_op od_mod (de_t1 cd_int rfl T.n_int bt_int (de_op od_add (de_ix hK (de_bor (pv 0)) de_int) (de_ix hK (de_bor (pv 1)) de_int))) (de_ix hK (de_bor (pv 0)) de_int)) de_int (nomark _)))) dss_nil) (dss_one (ds_ret (de_cmp (od_eq hK hu4) (de_op od_mod (de_t1 cd_int rfl T.n_int bt_int (de_op od_sub (de_op od_mul (de_ix hK (de_bor (pv 0)) de_int) (de_ix hK (de_bor (pv 1)) de_int)) de_int)) (de_ix hK (de_bor (pv 0)) de_int)) de_int (nomark _)))))))))))
theorem ok__law_refused (T : Txt P w K mg) (TB : TbB T base) (hA : Like A (A0 T)) : FnG P w K mg base 6 T.A__law_refused T.D__law_refused ["places", "moves", "place"] (spD A 3 F__law_refused) := by
  have G_place_after := ok_place_after (P := P) (w := w) (base := base) (A := A) T TB hA
  exact def_okL (k := 5) T.F__law_refused sc__law_refused rfl fun Ar outer sh H Hb E hr hgd => by
    have hK : K = A.K := hA.K.symm
    have nd := sc__law_refused.nd
    have hu : (Ar.deeper (envOfC "_law_refused" (defScope st__law_refused) sh.heap.objs.size T.A__law_refused (.ref T.c__law_refused))).units + 65 < cLine := by have := hr.un; omega
    have hu4 : (Ar.deeper (envOfC "_law_refused" (defScope st__law_refused) sh.heap.objs.size T.A__law_refused (.ref T.c__law_refused))).units + 64 < cLine := by omega
    have hu6 : (Ar.deeper (envOfC "_law_refused" (defScope st__law_refused) sh.heap.objs.size T.A__law_refused (.ref T.c__law_refused))).units + 66 < cLine := by have := hr.un; omega
    have hu5 : (Ar.deeper (envOfC "_law_refused" (defScope st__law_refused) sh.heap.objs.size T.A__law_refused (.ref T.c__law_refused))).units + 3 + 65 < cLine := by have := hr.un; omega
    have hu9 : (Ar.deeper (envOfC "_law_refused" (defScope st__law_refused) sh.heap.objs.size T.A__law_refused (.ref T.c__law_refused))).units + 3 + 66 < cLine := by have := hr.un; omega
    have ho := passes_of (X := cxOf (L2.CX P w) P w K mg base ["places", "moves", "place", "e"] "_law_refused" (defScope st__law_refused) T.A__law_refused (.ref T.c__law_refused) Ar outer sh H E) rfl
    have tk : Takes (cxOf (L2.CX P w) P w K mg base ["places", "moves", "place", "e"] "_law_refused" (defScope st__law_refused) T.A__law_refused (.ref T.c__law_refused) Ar outer sh H E) (fun cls d _ H => E cls d H) := takes_of rfl rfl rfl rfl
    have hp : PassS (cxOf (L2.CX P w) P w K mg base ["places", "moves", "place", "e"] "_law_refused" (defScope st__law_refused) T.A__law_refused (.ref T.c__law_refused) Ar outer sh H E) (fun _ => E) := PassS.tk tk
    exact (dss_cons (ds_try (i := 3) hA.er rfl rfl nd rfl rfl ⟨rfl, by decide, .inl T.g_InvalidMove⟩ tk (T.ex_InvalidMove hA) (fun W1 pn1 xe1 tk1 ho1 => (dss_cons (ds_drop (de_call (Calls.of G_place_after (hr.mono (by decide))) (PassS.tk tk1) rfl T.g_place_after T.F_place_after.kp (b_place_after T) (da_cons (de_var (pv 0)) (da_cons (de_lst (da_cons (de_tup (da_cons de_str (da_cons de_int (da_cons (de_op od_add (de_bor (pv 0)) de_int) da_nil)))) da_nil)) (da_cons (de_var (pv 2)) da_nil))))) (dss_one (ds_ret de_bl)))) (fun p oe pn hz hd => (dss_one (ds_if (dt_cmp (od_ne hK hu4) (de_b1 (cd_rep hK hgd hu6) rfl T.n_repr bt_repr (de_errAt (T.erC hA) hz hd (de_bor (pv 3)))) de_str (nomark _)) (dss_one (ds_ret de_bl)) dss_nil)))) (dss_one (ds_try (i := 3) hA.er rfl rfl nd rfl rfl ⟨rfl, by decide, .inl T.g_Refused⟩ tk (T.ex_Refused hA) (fun W1 pn1 xe1 tk1 ho1 => (dss_cons (ds_drop (de_call (Calls.of G_place_after (hr.mono (by decide))) (PassS.tk tk1) rfl T.g_place_after T.F_place_after.kp (b_place_after T) (da_cons (de_var (pv 0)) (da_cons (de_var (pv 1)) (da_cons (de_var (pv 2)) da_nil))))) (dss_one (ds_ret de_bl)))) (fun p oe pn hz hd => (dss_one (ds_ret (de_cmp (od_eq hK hu4) (de_b1 (cd_rep hK hgd hu6) rfl T.n_repr bt_repr (de_errAt (T.erC hA) hz hd (de_bor (pv 3)))) de_str (nomark _))))))))
theorem ok__law_led_right (T : Txt P w K mg) (TB : TbB T base) (hA : Like A (A0 T)) : FnG P w K mg base 6 T.A__law_led_right T.D__law_led_right ["places", "moves", "backs", "place"] (spD A 4 F__law_led_right) := by
  have G__law_led := ok__law_led (P := P) (w := w) (base := base) (A := A) T TB hA
  have G_place_after := ok_place_after (P := P) (w := w) (base := base) (A := A) T TB hA
  exact def_okL (k := 5) T.F__law_led_right sc__law_led_right rfl fun Ar outer sh H Hb E hr hgd => by
    have hK : K = A.K := hA.K.symm
    have nd := sc__law_led_right.nd
    have hu : (Ar.deeper (envOfC "_law_led_right" (defScope st__law_led_right) sh.heap.objs.size T.A__law_led_right (.ref T.c__law_led_right))).units + 65 < cLine := by have := hr.un; omega
    have hu4 : (Ar.deeper (envOfC "_law_led_right" (defScope st__law_led_right) sh.heap.objs.size T.A__law_led_right (.ref T.c__law_led_right))).units + 64 < cLine := by omega
    have hu6 : (Ar.deeper (envOfC "_law_led_right" (defScope st__law_led_right) sh.heap.objs.size T.A__law_led_right (.ref T.c__law_led_right))).units + 66 < cLine := by have := hr.un; omega
    have hu5 : (Ar.deeper (envOfC "_law_led_right" (defScope st__law_led_right) sh.heap.objs.size T.A__law_led_right (.ref T.c__law_led_right))).units + 3 + 65 < cLine := by have := hr.un; omega
    have hu9 : (Ar.deeper (envOfC "_law_led_right" (defScope st__law_led_right) sh.heap.objs.size T.A__law_led_right (.ref T.c__law_led_right))).units + 3 + 66 < cLine := by have := hr.un; omega
    have ho := passes_of (X := cxOf (L2.CX P w) P w K mg base ["places", "moves", "backs", "place", "due"] "_law_led_right" (defScope st__law_led_right) T.A__law_led_right (.ref T.c__law_led_right) Ar outer sh H E) rfl
    have tk : Takes (cxOf (L2.CX P w) P w K mg base ["places", "moves", "backs", "place", "due"] "_law_led_right" (defScope st__law_led_right) T.A__law_led_right (.ref T.c__law_led_right) Ar outer sh H E) (fun cls d _ H => E cls d H) := takes_of rfl rfl rfl rfl
    have hp : PassS (cxOf (L2.CX P w) P w K mg base ["places", "moves", "backs", "place", "due"] "_law_led_right" (defScope st__law_led_right) T.A__law_led_right (.ref T.c__law_led_right) Ar outer sh H E) (fun _ => E) := PassS.tk tk
    exact (dss_cons (ds_set (ps_set (i := 4) nd rfl (Or.inl rfl) (de_call (Calls.of G__law_led (hr.mono (by decide))) hp rfl T.g__law_led T.F__law_led.kp (b__law_led T) (da_cons (de_var (pv 1)) (da_cons (de_var (pv 3)) da_nil))))) (dss_cons (ds_if (dt_cmp (od_ne hK hu4) (de_b1 (cd_rep hK hgd hu6) rfl T.n_repr bt_repr (de_call (Calls.of G_place_after (hr.mono (by decide))) hp rfl T.g_place_after T.F_place_after.kp (b_place_after T) (da_cons (de_var (pv 0)) (da_cons (de_var (pv 1)) (da_cons (de_var (pv 3)) da_nil))))) (de_b1 (cd_rep hK hgd hu6) rfl T.n_repr bt_repr (de_bor (pv 4))) (nomark _)) (dss_one (ds_ret de_bl)) dss_nil) (dss_one (ds_ret (de_cmp (od_eq hK hu4) (de_b1 (cd_rep hK hgd hu6) rfl T.n_repr bt_repr (de_call (Calls.of G_place_after (hr.mono (by decide))) hp rfl T.g_place_after T.F_place_after.kp (b_place_after T) (da_cons (de_var (pv 0)) (da_cons (de_var (pv 2)) (da_cons (de_var (pv 4)) da_nil))))) (de_b1 (cd_rep hK hgd hu6) rfl T.n_repr bt_repr (de_bor (pv 3))) (nomark _))))))
theorem ok_law (T : Txt P w K mg) (TB : TbB T base) (hf : ∀ ns : List Int, ∃ W', f_law (lawC 12 (drawW ns 56)) = .ret false (.bl true) W') : FnG P w K mg base 7 T.A_law T.D_law ["script"] (spLaw (A0 T)) := by
  have G__law_draw := ok__law_draw (P := P) (w := w) (base := base) T TB
  refine fnG_of (k := 6) T.F_law sc_law (fun vs H Q E h => ?_) fun Ar outer sh H vs Q E hr hgd h => ⟨tSeq (t_lawDraw (A0 T) E 56) (rdSx (A0 T) (fun _ => E) f_law), ?_, pure_law (m := 12) h rfl (by decide) (by decide) hf⟩
  · obtain ⟨a, ns, rfl, _⟩ := h
    rfl
  · have nd := sc_law.nd
    have hu : (Ar.deeper (envOfC "law" (defScope st_law) sh.heap.objs.size T.A_law (.ref T.c_law))).units + 65 < cLine := by have := hr.un; omega
    have hu4 : (Ar.deeper (envOfC "law" (defScope st_law) sh.heap.objs.size T.A_law (.ref T.c_law))).units + 64 < cLine := by omega
    have hu6 : (Ar.deeper (envOfC "law" (defScope st_law) sh.heap.objs.size T.A_law (.ref T.c_law))).units + 66 < cLine := by have := hr.un; omega
    have hu5 : (Ar.deeper (envOfC "law" (defScope st_law) sh.heap.objs.size T.A_law (.ref T.c_law))).units + 3 + 65 < cLine := by have := hr.un; omega
    have hu9 : (Ar.deeper (envOfC "law" (defScope st_law) sh.heap.objs.size T.A_law (.ref T.c_law))).units + 3 + 66 < cLine := by have := hr.un; omega
    have ho := passes_of (X := cxOf (L2.CX P w) P w K mg base ["script", "deal", "names", "places", "moves", "p", "handed", "backs", "place", "wrong", "looked", "move", "turn", "told"] "law" (defScope st_law) T.A_law (.ref T.c_law) Ar outer sh H E) rfl
    have tk : Takes (cxOf (L2.CX P w) P w K mg base ["script", "deal", "names", "places", "moves", "p", "handed", "backs", "place", "wrong", "looked", "move", "turn", "told"] "law" (defScope st_law) T.A_law (.ref T.c_law) Ar outer sh H E) (fun cls d _ H => E cls d H) := takes_of rfl rfl rfl rfl
    have hp : PassS (cxOf (L2.CX P w) P w K mg base ["script", "deal", "names", "places", "moves", "p", "handed", "backs", "place", "wrong", "looked", "move", "turn", "told"] "law" (defScope st_law) T.A_law (.ref T.c_law) Ar outer sh H E) (fun _ => E) := PassS.tk tk
    refine pss_cons (ps_set (i := 1) nd rfl (Or.inr rfl) (pe_callC (Calls.of G__law_draw (hr.mono (by decide))) hp rfl T.g__law_draw T.F__law_draw.kp (b__law_draw T) (pa_cons (pv 0) (pa_cons pe_int pa_nil)))) (pssx fun A B hA => ?_)
    have hK : K = A.K := hA.K.symm
    have G__law_any := ok__law_any (P := P) (w := w) (base := base) (A := A) T TB hA
    have G__law_done := ok__law_done (P := P) (w := w) (base := base) (A := A) T TB hA
    have G__law_large := ok__law_large (P := P) (w := w) (base := base) (A := A) T TB hA
    have G__law_led := ok__law_led (P := P) (w := w) (base := base) (A := A) T TB hA
    have G__law_led_right := ok__law_led_right (P := P) (w := w) (base := base) (A := A) T TB hA
    have G__law_move := ok__law_move (P := P) (w := w) (base := base) (A := A) T TB hA
    have G__law_of := ok__law_of (P := P) (w := w) (base := base) (A := A) T TB hA
    have G__law_refused := ok__law_refused (P := P) (w := w) (base := base) (A := A) T TB hA
    have G__law_size := ok__law_size (P := P) (w := w) (base := base) (A := A) T TB hA
    have G__law_undone := ok__law_undone (P := P) (w := w) (base := base) (A := A) T TB hA
    have G_place_after := ok_place_after (P := P) (w := w) (base := base) (A := A) T TB hA
    have G_spread := ok_spread (P := P) (w := w) (base := base) (A := A) T TB hA
    have G_undoing := ok_undoing (P := P) (w := w) (base := base) (A := A) T TB hA
    exact (dss_cons (ds_set (ps_set (i := 2) nd rfl (Or.inr rfl) (de_lst (da_cons de_str (da_cons de_str (da_cons de_str (da_cons de_str (da_cons de_str da_nil)))))))) (dss_cons (ds_set (ps_set (i := 3) nd rfl (Or.inr rfl) (de_op od_add de_int (de_call (Calls.of G__law_any (hr.mono (by decide))) hp rfl T.g__law_any T.F__law_any.kp (b__law_any T) (da_cons (de_var (pv 1)) (da_cons de_int da_nil)))))) (dss_cons (ds_setLc (i := 4) rfl nd rfl rfl rfl (by exact (di_range1 rfl T.n_range (de_call (Calls.of G__law_any (hr.mono (by decide))) hp rfl T.g__law_any T.F__law_any.kp (b__law_any T) (da_cons (de_var (pv 1)) (da_cons de_int da_nil))))) (blkOk_by (own := [("turn", 12)]) (by kernel_rfl)) (fun _ _ _ _ _ => (pg_name (i := 12) nd rfl (Or.inl rfl))) tgs_name rfl (fun _ _ _ _ _ _ => dts_nil) (fun _ _ _ _ _ _ => (de_call (Calls.of G__law_move (hr.mono (by decide))) passE rfl T.g__law_move T.F__law_move.kp (b__law_move T) (da_cons (de_var (pv 1)) (da_cons (de_var (pv 3)) (da_cons (de_var (pv 2)) da_nil)))))) (dss_cons (ds_par (i := 5) (j := 6) rfl nd rfl rfl (by decide) rfl rfl (de_call (Calls.of G__law_done (hr.mono (by decide))) hp rfl T.g__law_done T.F__law_done.kp (b__law_done T) (da_cons (de_var (pv 4)) (da_cons (de_var (pv 3)) da_nil))) (fun _ => (de_lc rfl nd (by exact (di_seq (de_var (pv 4)))) (blkOk_by (own := [("move", 11)]) (by kernel_rfl)) (fun _ _ _ _ _ => (pg_name (i := 11) nd rfl (Or.inl rfl))) tgs_name rfl (fun _ _ _ _ _ _ => dts_nil) (fun _ _ _ _ _ _ => (de_t1 cd_list rfl T.n_list bt_list (de_bor (pv 11)))))) rfl) (dss_cons (ds_if (dt_w (dw_or (dt_cmp (od_ne hK hu4) (de_b1 (cd_rep hK hgd hu6) rfl T.n_repr bt_repr (de_call (Calls.of G_spread (hr.mono (by decide))) hp rfl T.g_spread T.F_spread.kp (b_spread T) (da_cons (de_var (pv 3)) (da_cons (de_var (pv 4)) da_nil)))) (de_b1 (cd_rep hK hgd hu6) rfl T.n_repr bt_repr (de_bor (pv 5))) (nomark _)) (dw_or1 (dt_cmp (od_ne hK hu4) (de_b1 (cd_rep hK hgd hu6) rfl T.n_repr bt_repr (de_callK0 (Calls.of G_spread (hr.mono (by decide))) hp rfl T.g_spread T.F_spread.kp (kw_of T.F_spread.fn (ks := ["moves", "places"]) (n1 := 0) (n2 := 2) (π := [1, 0]) fun _ _ _ _ _ _ us ws h1 h2 => match us, ws, h1, h2 with | [], [_, _], _, _ => rfl) (dk_cons (de_t1 cd_tuple rfl T.n_tuple bt_tuple (de_bor (pv 6))) (dk_cons (de_var (pv 3)) dk_nil)))) (de_b1 (cd_rep hK hgd hu6) rfl T.n_repr bt_repr (de_bor (pv 5))) (nomark _))))) (dss_one (ds_ret de_bl)) dss_nil) (dss_cons (ds_set (ps_set (i := 7) nd rfl (Or.inl rfl) (de_call (Calls.of G_undoing (hr.mono (by decide))) hp rfl T.g_undoing T.F_undoing.kp (b_undoing T) (da_cons (de_var (pv 3)) (da_cons (de_var (pv 6)) da_nil))))) (dss_cons (ds_if (dt_w (dw_or (dt_not (dt_tru hK (de_isi1 (t := .tuple) (u := .none) rfl T.n_isinstance rfl T.n_tuple bt_tuple (de_bor (pv 7))) (fun _ => rfl))) (dw_or (dt_cmp (od_ne hK hu4) (de_b1 cd_len rfl T.n_len bt_len (de_bor (pv 7))) (de_b1 cd_len rfl T.n_len bt_len (de_bor (pv 4))) (nomark _)) (dw_or1 (dt_cmp (od_ne hK hu4) (de_bor (pv 6)) (de_lc rfl nd (by exact (di_seq (de_var (pv 4)))) (blkOk_by (own := [("move", 11)]) (by kernel_rfl)) (fun _ _ _ _ _ => (pg_name (i := 11) nd rfl (Or.inl rfl))) tgs_name rfl (fun _ _ _ _ _ _ => dts_nil) (fun _ _ _ _ _ _ => (de_t1 cd_list rfl T.n_list bt_list (de_bor (pv 11))))) (nomark _)))))) (dss_one (ds_ret de_bl)) dss_nil) (dss_cons (ds_if (dt_not (dt_tru hK (de_b1 (cd_all rfl) rfl T.n_all bt_all (de_lc rfl nd (by exact (di_zip rfl T.n_zip (da_cons (de_var (pv 4)) (da_cons (de_rev hK (de_bor (pv 7))) da_nil)))) (blkOk_by (own := [("move", 11), ("told", 13)]) (by kernel_rfl)) (fun _ _ _ _ _ => (pg_tup rfl (pgs_cons (pg_name (i := 11) nd rfl (Or.inl rfl)) (pgs_cons (pg_name (i := 13) nd rfl (Or.inl rfl)) pgs_nil)))) (tgs_tup (tgs_cons tgs_name (tgs_cons tgs_name tgs_nil))) rfl (fun _ _ _ _ _ _ => dts_nil) (fun _ _ _ _ _ _ => (de_call (Calls.of G__law_undone (hr.mono (by decide))) passE rfl T.g__law_undone T.F__law_undone.kp (b__law_undone T) (da_cons (de_var (pv 11)) (da_cons (de_var (pv 13)) da_nil)))))) (fun _ => rfl))) (dss_one (ds_ret de_bl)) dss_nil) (dss_cons (ds_for ho rfl (di_range1 rfl T.n_range (de_bor (pv 3))) (pg_name (i := 8) nd rfl (Or.inl rfl)) tgs_name (dss_one (ds_if (dt_w (dw_or (dt_not (dt_tru hK (de_call (Calls.ofG G__law_led_right (hr.mono (by decide)) hgd) hp rfl T.g__law_led_right T.F__law_led_right.kp (b__law_led_right T) (da_cons (de_var (pv 3)) (da_cons (de_var (pv 4)) (da_cons (de_var (pv 7)) (da_cons (de_var (pv 8)) da_nil))))) (fun _ => rfl))) (dw_or1 (dt_cmp (od_ne hK hu4) (de_call (Calls.of G__law_led (hr.mono (by decide))) hp rfl T.g__law_led T.F__law_led.kp (b__law_led T) (da_cons (de_var (pv 4)) (da_cons (de_var (pv 8)) da_nil))) (de_ix hK (de_bor (pv 5)) (de_bor (pv 8))) (nomark _))))) (dss_one (ds_ret de_bl)) dss_nil))) (dss_cons (ds_if (dt_cmp (od_ne hK hu4) (de_call (Calls.of G_spread (hr.mono (by decide))) hp rfl T.g_spread T.F_spread.kp (b_spread T) (da_cons (de_var (pv 3)) (da_cons (de_op od_add (de_t1 cd_list rfl T.n_list bt_list (de_bor (pv 7))) (de_bor (pv 4))) da_nil))) (de_tupRg rfl rfl T.n_tuple rfl T.n_range (de_bor (pv 3))) (nomark _)) (dss_one (ds_ret de_bl)) dss_nil) (dss_cons (ds_set (ps_set (i := 9) nd rfl (Or.inl rfl) (de_call (Calls.of G__law_of (hr.mono (by decide))) hp rfl T.g__law_of T.F__law_of.kp (b__law_of T) (da_cons (de_var (pv 1)) (da_cons (de_lst (da_cons (de_neg de_int) (da_cons (de_var (pv 3)) (da_cons de_bl (da_cons de_bl (da_cons de_non (da_cons de_str (da_cons (de_op od_add (de_bor (pv 3)) (de_call (Calls.of G__law_any (hr.mono (by decide))) hp rfl T.g__law_any T.F__law_any.kp (b__law_any T) (da_cons (de_var (pv 1)) (da_cons de_int da_nil)))) (da_cons (de_tup (da_cons de_int da_nil)) da_nil))))))))) da_nil))))) (dss_cons (ds_if (dt_not (dt_tru hK (de_call (Calls.ofG G__law_refused (hr.mono (by decide)) hgd) hp rfl T.g__law_refused T.F__law_refused.kp (b__law_refused T) (da_cons (de_var (pv 3)) (da_cons (de_var (pv 6)) (da_cons (de_var (pv 9)) da_nil)))) (fun _ => rfl))) (dss_one (ds_ret de_bl)) dss_nil) (dss_cons (ds_set (ps_set (i := 3) nd rfl (Or.inr rfl) (de_call (Calls.of G__law_of (hr.mono (by decide))) hp rfl T.g__law_of T.F__law_of.kp (b__law_of T) (da_cons (de_var (pv 1)) (da_cons (de_lst (da_cons (de_op od_pow de_int de_int) (da_cons (de_op od_add de_int (de_call (Calls.of G__law_large (hr.mono (by decide))) hp rfl T.g__law_large T.F__law_large.kp (b__law_large T) (da_cons (de_var (pv 1)) (da_cons (de_op od_sub (de_op od_pow de_int de_int) de_int) da_nil)))) (da_cons (de_op od_add de_int (de_call (Calls.of G__law_any (hr.mono (by decide))) hp rfl T.g__law_any T.F__law_any.kp (b__law_any T) (da_cons (de_var (pv 1)) (da_cons de_int da_nil)))) da_nil)))) da_nil))))) (dss_cons (ds_setLc (i := 4) rfl nd rfl rfl rfl (by exact (di_range1 rfl T.n_range (de_op od_add de_int (de_call (Calls.of G__law_any (hr.mono (by decide))) hp rfl T.g__law_any T.F__law_any.kp (b__law_any T) (da_cons (de_var (pv 1)) (da_cons de_int da_nil)))))) (blkOk_by (own := [("turn", 12)]) (by kernel_rfl)) (fun _ _ _ _ _ => (pg_name (i := 12) nd rfl (Or.inl rfl))) tgs_name rfl (fun _ _ _ _ _ _ => dts_nil) (fun _ _ _ _ _ _ => (de_call (Calls.of G__law_move (hr.mono (by decide))) passE rfl T.g__law_move T.F__law_move.kp (b__law_move T) (da_cons (de_var (pv 1)) (da_cons (de_var (pv 3)) (da_cons (de_var (pv 2)) da_nil)))))) (dss_cons (ds_set (ps_set (i := 7) nd rfl (Or.inl rfl) (de_callK0 (Calls.of G_undoing (hr.mono (by decide))) hp rfl T.g_undoing T.F_undoing.kp (kw_of T.F_undoing.fn (ks := ["moves", "places"]) (n1 := 0) (n2 := 2) (π := [1, 0]) fun _ _ _ _ _ _ us ws h1 h2 => match us, ws, h1, h2 with | [], [_, _], _, _ => rfl) (dk_cons (de_var (pv 4)) (dk_cons (de_var (pv 3)) dk_nil))))) (dss_cons (ds_if (dt_w (dw_or (dt_cmp (od_ne hK hu4) (de_b1 cd_len rfl T.n_len bt_len (de_bor (pv 7))) (de_b1 cd_len rfl T.n_len bt_len (de_bor (pv 4))) (nomark _)) (dw_or1 (dt_not (dt_tru hK (de_b1 (cd_all rfl) rfl T.n_all bt_all (de_lc rfl nd (by exact (di_zip rfl T.n_zip (da_cons (de_var (pv 4)) (da_cons (de_rev hK (de_bor (pv 7))) da_nil)))) (blkOk_by (own := [("move", 11), ("told", 13)]) (by kernel_rfl)) (fun _ _ _ _ _ => (pg_tup rfl (pgs_cons (pg_name (i := 11) nd rfl (Or.inl rfl)) (pgs_cons (pg_name (i := 13) nd rfl (Or.inl rfl)) pgs_nil)))) (tgs_tup (tgs_cons tgs_name (tgs_cons tgs_name tgs_nil))) rfl (fun _ _ _ _ _ _ => dts_nil) (fun _ _ _ _ _ _ => (de_call (Calls.of G__law_undone (hr.mono (by decide))) passE rfl T.g__law_undone T.F__law_undone.kp (b__law_undone T) (da_cons (de_var (pv 11)) (da_cons (de_var (pv 13)) da_nil)))))) (fun _ => rfl)))))) (dss_one (ds_ret de_bl)) dss_nil) (dss_cons (ds_set (ps_set (i := 10) nd rfl (Or.inl rfl) (de_op od_add (de_lst (da_cons de_int (da_cons (de_op od_sub (de_bor (pv 3)) de_int) da_nil))) (de_lc rfl nd (by exact (di_range1 rfl T.n_range de_int)) (blkOk_by (own := [("turn", 12)]) (by kernel_rfl)) (fun _ _ _ _ _ => (pg_name (i := 12) nd rfl (Or.inl rfl))) tgs_name rfl (fun _ _ _ _ _ _ => dts_nil) (fun _ _ _ _ _ _ => (de_call (Calls.of G__law_large (hr.mono (by decide))) passE rfl T.g__law_large T.F__law_large.kp (b__law_large T) (da_cons (de_var (pv 1)) (da_cons (de_var (pv 3)) da_nil)))))))) (dss_cons (ds_for ho rfl (di_seq (de_sl hK (de_bor (pv 4)) do_none (do_some de_int))) (pg_name (i := 11) nd rfl (Or.inl rfl)) tgs_name (dss_one (ds_set (ps_set (i := 10) nd rfl (Or.inl rfl) (de_op od_add (de_bor (pv 10)) (de_lst (da_cons (de_ix hK (de_bor (pv 11)) de_int) (da_cons (de_op od_sub (de_op od_add (de_ix hK (de_bor (pv 11)) de_int) (de_call (Calls.of G__law_size (hr.mono (by decide))) hp rfl T.g__law_size T.F__law_size.kp (b__law_size T) (da_cons (de_var (pv 11)) da_nil))) de_int) (da_cons (de_op od_add (de_ix hK (de_bor (pv 11)) de_int) (de_call (Calls.of G__law_large (hr.mono (by decide))) hp rfl T.g__law_large T.F__law_large.kp (b__law_large T) (da_cons (de_var (pv 1)) (da_cons (de_call (Calls.of G__law_size (hr.mono (by decide))) hp rfl T.g__law_size T.F__law_size.kp (b__law_size T) (da_cons (de_var (pv 11)) da_nil)) da_nil)))) da_nil))))))))) (dss_cons (ds_for ho rfl (di_seq (de_var (pv 10))) (pg_name (i := 8) nd rfl (Or.inl rfl)) tgs_name (dss_one (ds_if (dt_not (dt_tru hK (de_call (Calls.ofG G__law_led_right (hr.mono (by decide)) hgd) hp rfl T.g__law_led_right T.F__law_led_right.kp (b__law_led_right T) (da_cons (de_var (pv 3)) (da_cons (de_var (pv 4)) (da_cons (de_var (pv 7)) (da_cons (de_var (pv 8)) da_nil))))) (fun _ => rfl))) (dss_one (ds_ret de_bl)) dss_nil))) (dss_one (ds_ret (de_cmp (od_eq hK hu4) (de_b1 (cd_rep hK hgd hu6) rfl T.n_repr bt_repr (de_callK0 (Calls.of G_place_after (hr.mono (by decide))) hp rfl T.g_place_after T.F_place_after.kp (kw_of T.F_place_after.fn (ks := ["place", "moves", "places"]) (n1 := 0) (n2 := 3) (π := [2, 1, 0]) fun _ _ _ _ _ _ us ws h1 h2 => match us, ws, h1, h2 with | [], [_, _, _], _, _ => rfl) (dk_cons (de_ix hK (de_bor (pv 10)) de_int) (dk_cons (de_var (pv 4)) (dk_cons (de_var (pv 3)) dk_nil))))) (de_b1 (cd_rep hK hgd hu6) rfl T.n_repr bt_repr (de_call (Calls.of G__law_led (hr.mono (by decide))) hp rfl T.g__law_led T.F__law_led.kp (b__law_led T) (da_cons (de_var (pv 4)) (da_cons (de_ix hK (de_bor (pv 10)) de_int) da_nil)))) (nomark _)))))))))))))))))))))))
theorem all_mk {q : Program} {h : Heap} {fa : Addr} (X : K.In h) (G : h.Ns mainGlobals mg) (hfa : mg "law" = some (.ref fa)) (hf : ∀ ns : List Int, ∃ W', f_law (lawC 12 (drawW ns 56)) = .ret false (.bl true) W')
    {f0 : Addr} {od0 an0 : Option Addr} {sl0 : Array (Option Value)} {oc0 kV0 dc0 pm0 ct0 : Value} {cd0 : Addr}
    (a0 : PySem.W.nsIn K mainGlobals "is_integer" = some (some (.ref f0))) (l0 : K.lookup f0 = some ⟨oc0, od0, .func (PySem.W.fnOf "is_integer" "is_integer" (defArgs st_is_integer) (defBody st_is_integer) (defScope st_is_integer) .none kV0 dc0 pm0 an0 (.ref cd0) ct0), sl0⟩) (c0 : PySem.W.codeIn K (.ref cd0) "is_integer" = true) (k0 : PySem.W.keepIn K (.ref f0) = true)
    {f1 : Addr} {od1 an1 : Option Addr} {sl1 : Array (Option Value)} {oc1 kV1 dc1 pm1 ct1 : Value} {cd1 : Addr}
    (a1 : PySem.W.nsIn K mainGlobals "is_number" = some (some (.ref f1))) (l1 : K.lookup f1 = some ⟨oc1, od1, .func (PySem.W.fnOf "is_number" "is_number" (defArgs st_is_number) (defBody st_is_number) (defScope st_is_number) .none kV1 dc1 pm1 an1 (.ref cd1) ct1), sl1⟩) (c1 : PySem.W.codeIn K (.ref cd1) "is_number" = true) (k1 : PySem.W.keepIn K (.ref f1) = true)
    {f2 : Addr} {od2 an2 : Option Addr} {sl2 : Array (Option Value)} {oc2 kV2 dc2 pm2 ct2 : Value} {cd2 : Addr}
    (a2 : PySem.W.nsIn K mainGlobals "is_sequence" = some (some (.ref f2))) (l2 : K.lookup f2 = some ⟨oc2, od2, .func (PySem.W.fnOf "is_sequence" "is_sequence" (defArgs st_is_sequence) (defBody st_is_sequence) (defScope st_is_sequence) .none kV2 dc2 pm2 an2 (.ref cd2) ct2), sl2⟩) (c2 : PySem.W.codeIn K (.ref cd2) "is_sequence" = true) (k2 : PySem.W.keepIn K (.ref f2) = true)
    {f3 : Addr} {od3 an3 : Option Addr} {sl3 : Array (Option Value)} {oc3 kV3 dc3 pm3 ct3 : Value} {cd3 : Addr}
    (a3 : PySem.W.nsIn K mainGlobals "is_index" = some (some (.ref f3))) (l3 : K.lookup f3 = some ⟨oc3, od3, .func (PySem.W.fnOf "is_index" "is_index" (defArgs st_is_index) (defBody st_is_index) (defScope st_is_index) .none kV3 dc3 pm3 an3 (.ref cd3) ct3), sl3⟩) (c3 : PySem.W.codeIn K (.ref cd3) "is_index" = true) (k3 : PySem.W.keepIn K (.ref f3) = true)
    {f4 : Addr} {od4 an4 : Option Addr} {sl4 : Array (Option Value)} {oc4 kV4 dc4 pm4 ct4 : Value} {cd4 : Addr}
    (a4 : PySem.W.nsIn K mainGlobals "divisor" = some (some (.ref f4))) (l4 : K.lookup f4 = some ⟨oc4, od4, .func (PySem.W.fnOf "divisor" "divisor" (defArgs st_divisor) (defBody st_divisor) (defScope st_divisor) .none kV4 dc4 pm4 an4 (.ref cd4) ct4), sl4⟩) (c4 : PySem.W.codeIn K (.ref cd4) "divisor" = true) (k4 : PySem.W.keepIn K (.ref f4) = true)
    {f5 : Addr} {od5 an5 : Option Addr} {sl5 : Array (Option Value)} {oc5 kV5 dc5 pm5 ct5 : Value} {cd5 : Addr}
    (a5 : PySem.W.nsIn K mainGlobals "size_of" = some (some (.ref f5))) (l5 : K.lookup f5 = some ⟨oc5, od5, .func (PySem.W.fnOf "size_of" "size_of" (defArgs st_size_of) (defBody st_size_of) (defScope st_size_of) .none kV5 dc5 pm5 an5 (.ref cd5) ct5), sl5⟩) (c5 : PySem.W.codeIn K (.ref cd5) "size_of" = true) (k5 : PySem.W.keepIn K (.ref f5) = true)
    {f6 : Addr} {od6 an6 : Option Addr} {sl6 : Array (Option Value)} {oc6 kV6 dc6 pm6 ct6 : Value} {cd6 : Addr}
    (a6 : PySem.W.nsIn K mainGlobals "is_move" = some (some (.ref f6))) (l6 : K.lookup f6 = some ⟨oc6, od6, .func (PySem.W.fnOf "is_move" "is_move" (defArgs st_is_move) (defBody st_is_move) (defScope st_is_move) .none kV6 dc6 pm6 an6 (.ref cd6) ct6), sl6⟩) (c6 : PySem.W.codeIn K (.ref cd6) "is_move" = true) (k6 : PySem.W.keepIn K (.ref f6) = true)
    {f7 : Addr} {od7 an7 : Option Addr} {sl7 : Array (Option Value)} {oc7 kV7 dc7 pm7 ct7 : Value} {cd7 : Addr}
    (a7 : PySem.W.nsIn K mainGlobals "checked_moves" = some (some (.ref f7))) (l7 : K.lookup f7 = some ⟨oc7, od7, .func (PySem.W.fnOf "checked_moves" "checked_moves" (defArgs st_checked_moves) (defBody st_checked_moves) (defScope st_checked_moves) .none kV7 dc7 pm7 an7 (.ref cd7) ct7), sl7⟩) (c7 : PySem.W.codeIn K (.ref cd7) "checked_moves" = true) (k7 : PySem.W.keepIn K (.ref f7) = true)
    {f8 : Addr} {od8 an8 : Option Addr} {sl8 : Array (Option Value)} {oc8 kV8 dc8 pm8 ct8 : Value} {cd8 : Addr}
    (a8 : PySem.W.nsIn K mainGlobals "moved" = some (some (.ref f8))) (l8 : K.lookup f8 = some ⟨oc8, od8, .func (PySem.W.fnOf "moved" "moved" (defArgs st_moved) (defBody st_moved) (defScope st_moved) .none kV8 dc8 pm8 an8 (.ref cd8) ct8), sl8⟩) (c8 : PySem.W.codeIn K (.ref cd8) "moved" = true) (k8 : PySem.W.keepIn K (.ref f8) = true)
    {f9 : Addr} {od9 an9 : Option Addr} {sl9 : Array (Option Value)} {oc9 kV9 dc9 pm9 ct9 : Value} {cd9 : Addr}
    (a9 : PySem.W.nsIn K mainGlobals "led" = some (some (.ref f9))) (l9 : K.lookup f9 = some ⟨oc9, od9, .func (PySem.W.fnOf "led" "led" (defArgs st_led) (defBody st_led) (defScope st_led) .none kV9 dc9 pm9 an9 (.ref cd9) ct9), sl9⟩) (c9 : PySem.W.codeIn K (.ref cd9) "led" = true) (k9 : PySem.W.keepIn K (.ref f9) = true)
    {f10 : Addr} {od10 an10 : Option Addr} {sl10 : Array (Option Value)} {oc10 kV10 dc10 pm10 ct10 : Value} {cd10 : Addr}
    (a10 : PySem.W.nsIn K mainGlobals "place_after" = some (some (.ref f10))) (l10 : K.lookup f10 = some ⟨oc10, od10, .func (PySem.W.fnOf "place_after" "place_after" (defArgs st_place_after) (defBody st_place_after) (defScope st_place_after) .none kV10 dc10 pm10 an10 (.ref cd10) ct10), sl10⟩) (c10 : PySem.W.codeIn K (.ref cd10) "place_after" = true) (k10 : PySem.W.keepIn K (.ref f10) = true)
    {f11 : Addr} {od11 an11 : Option Addr} {sl11 : Array (Option Value)} {oc11 kV11 dc11 pm11 ct11 : Value} {cd11 : Addr}
    (a11 : PySem.W.nsIn K mainGlobals "spread" = some (some (.ref f11))) (l11 : K.lookup f11 = some ⟨oc11, od11, .func (PySem.W.fnOf "spread" "spread" (defArgs st_spread) (defBody st_spread) (defScope st_spread) .none kV11 dc11 pm11 an11 (.ref cd11) ct11), sl11⟩) (c11 : PySem.W.codeIn K (.ref cd11) "spread" = true) (k11 : PySem.W.keepIn K (.ref f11) = true)
    {f12 : Addr} {od12 an12 : Option Addr} {sl12 : Array (Option Value)} {oc12 kV12 dc12 pm12 ct12 : Value} {cd12 : Addr}
    (a12 : PySem.W.nsIn K mainGlobals "inverse" = some (some (.ref f12))) (l12 : K.lookup f12 = some ⟨oc12, od12, .func (PySem.W.fnOf "inverse" "inverse" (defArgs st_inverse) (defBody st_inverse) (defScope st_inverse) .none kV12 dc12 pm12 an12 (.ref cd12) ct12), sl12⟩) (c12 : PySem.W.codeIn K (.ref cd12) "inverse" = true) (k12 : PySem.W.keepIn K (.ref f12) = true)
    {f13 : Addr} {od13 an13 : Option Addr} {sl13 : Array (Option Value)} {oc13 kV13 dc13 pm13 ct13 : Value} {cd13 : Addr}
    (a13 : PySem.W.nsIn K mainGlobals "undone" = some (some (.ref f13))) (l13 : K.lookup f13 = some ⟨oc13, od13, .func (PySem.W.fnOf "undone" "undone" (defArgs st_undone) (defBody st_undone) (defScope st_undone) .none kV13 dc13 pm13 an13 (.ref cd13) ct13), sl13⟩) (c13 : PySem.W.codeIn K (.ref cd13) "undone" = true) (k13 : PySem.W.keepIn K (.ref f13) = true)
    {f14 : Addr} {od14 an14 : Option Addr} {sl14 : Array (Option Value)} {oc14 kV14 dc14 pm14 ct14 : Value} {cd14 : Addr}
    (a14 : PySem.W.nsIn K mainGlobals "undoing" = some (some (.ref f14))) (l14 : K.lookup f14 = some ⟨oc14, od14, .func (PySem.W.fnOf "undoing" "undoing" (defArgs st_undoing) (defBody st_undoing) (defScope st_undoing) .none kV14 dc14 pm14 an14 (.ref cd14) ct14), sl14⟩) (c14 : PySem.W.codeIn K (.ref cd14) "undoing" = true) (k14 : PySem.W.keepIn K (.ref f14) = true)
    {f15 : Addr} {od15 an15 : Option Addr} {sl15 : Array (Option Value)} {oc15 kV15 dc15 pm15 ct15 : Value} {cd15 : Addr}
    (a15 : PySem.W.nsIn K mainGlobals "_law_draw" = some (some (.ref f15))) (l15 : K.lookup f15 = some ⟨oc15, od15, .func (PySem.W.fnOf "_law_draw" "_law_draw" (defArgs st__law_draw) (defBody st__law_draw) (defScope st__law_draw) .none kV15 dc15 pm15 an15 (.ref cd15) ct15), sl15⟩) (c15 : PySem.W.codeIn K (.ref cd15) "_law_draw" = true) (k15 : PySem.W.keepIn K (.ref f15) = true)
    {f16 : Addr} {od16 an16 : Option Addr} {sl16 : Array (Option Value)} {oc16 kV16 dc16 pm16 ct16 : Value} {cd16 : Addr}
    (a16 : PySem.W.nsIn K mainGlobals "_law_any" = some (some (.ref f16))) (l16 : K.lookup f16 = some ⟨oc16, od16, .func (PySem.W.fnOf "_law_any" "_law_any" (defArgs st__law_any) (defBody st__law_any) (defScope st__law_any) .none kV16 dc16 pm16 an16 (.ref cd16) ct16), sl16⟩) (c16 : PySem.W.codeIn K (.ref cd16) "_law_any" = true) (k16 : PySem.W.keepIn K (.ref f16) = true)
    {f17 : Addr} {od17 an17 : Option Addr} {sl17 : Array (Option Value)} {oc17 kV17 dc17 pm17 ct17 : Value} {cd17 : Addr}
    (a17 : PySem.W.nsIn K mainGlobals "_law_of" = some (some (.ref f17))) (l17 : K.lookup f17 = some ⟨oc17, od17, .func (PySem.W.fnOf "_law_of" "_law_of" (defArgs st__law_of) (defBody st__law_of) (defScope st__law_of) .none kV17 dc17 pm17 an17 (.ref cd17) ct17), sl17⟩) (c17 : PySem.W.codeIn K (.ref cd17) "_law_of" = true) (k17 : PySem.W.keepIn K (.ref f17) = true)
    {f18 : Addr} {od18 an18 : Option Addr} {sl18 : Array (Option Value)} {oc18 kV18 dc18 pm18 ct18 : Value} {cd18 : Addr}
    (a18 : PySem.W.nsIn K mainGlobals "_law_large" = some (some (.ref f18))) (l18 : K.lookup f18 = some ⟨oc18, od18, .func (PySem.W.fnOf "_law_large" "_law_large" (defArgs st__law_large) (defBody st__law_large) (defScope st__law_large) .none kV18 dc18 pm18 an18 (.ref cd18) ct18), sl18⟩) (c18 : PySem.W.codeIn K (.ref cd18) "_law_large" = true) (k18 : PySem.W.keepIn K (.ref f18) = true)
    {f19 : Addr} {od19 an19 : Option Addr} {sl19 : Array (Option Value)} {oc19 kV19 dc19 pm19 ct19 : Value} {cd19 : Addr}
    (a19 : PySem.W.nsIn K mainGlobals "_law_some" = some (some (.ref f19))) (l19 : K.lookup f19 = some ⟨oc19, od19, .func (PySem.W.fnOf "_law_some" "_law_some" (defArgs st__law_some) (defBody st__law_some) (defScope st__law_some) .none kV19 dc19 pm19 an19 (.ref cd19) ct19), sl19⟩) (c19 : PySem.W.codeIn K (.ref cd19) "_law_some" = true) (k19 : PySem.W.keepIn K (.ref f19) = true)
    {f20 : Addr} {od20 an20 : Option Addr} {sl20 : Array (Option Value)} {oc20 kV20 dc20 pm20 ct20 : Value} {cd20 : Addr}
    (a20 : PySem.W.nsIn K mainGlobals "_law_divisor" = some (some (.ref f20))) (l20 : K.lookup f20 = some ⟨oc20, od20, .func (PySem.W.fnOf "_law_divisor" "_law_divisor" (defArgs st__law_divisor) (defBody st__law_divisor) (defScope st__law_divisor) .none kV20 dc20 pm20 an20 (.ref cd20) ct20), sl20⟩) (c20 : PySem.W.codeIn K (.ref cd20) "_law_divisor" = true) (k20 : PySem.W.keepIn K (.ref f20) = true)
    {f21 : Addr} {od21 an21 : Option Addr} {sl21 : Array (Option Value)} {oc21 kV21 dc21 pm21 ct21 : Value} {cd21 : Addr}
    (a21 : PySem.W.nsIn K mainGlobals "_law_move" = some (some (.ref f21))) (l21 : K.lookup f21 = some ⟨oc21, od21, .func (PySem.W.fnOf "_law_move" "_law_move" (defArgs st__law_move) (defBody st__law_move) (defScope st__law_move) .none kV21 dc21 pm21 an21 (.ref cd21) ct21), sl21⟩) (c21 : PySem.W.codeIn K (.ref cd21) "_law_move" = true) (k21 : PySem.W.keepIn K (.ref f21) = true)
    {f22 : Addr} {od22 an22 : Option Addr} {sl22 : Array (Option Value)} {oc22 kV22 dc22 pm22 ct22 : Value} {cd22 : Addr}
    (a22 : PySem.W.nsIn K mainGlobals "_law_size" = some (some (.ref f22))) (l22 : K.lookup f22 = some ⟨oc22, od22, .func (PySem.W.fnOf "_law_size" "_law_size" (defArgs st__law_size) (defBody st__law_size) (defScope st__law_size) .none kV22 dc22 pm22 an22 (.ref cd22) ct22), sl22⟩) (c22 : PySem.W.codeIn K (.ref cd22) "_law_size" = true) (k22 : PySem.W.keepIn K (.ref f22) = true)
    {f23 : Addr} {od23 an23 : Option Addr} {sl23 : Array (Option Value)} {oc23 kV23 dc23 pm23 ct23 : Value} {cd23 : Addr}
    (a23 : PySem.W.nsIn K mainGlobals "_law_goes" = some (some (.ref f23))) (l23 : K.lookup f23 = some ⟨oc23, od23, .func (PySem.W.fnOf "_law_goes" "_law_goes" (defArgs st__law_goes) (defBody st__law_goes) (defScope st__law_goes) .none kV23 dc23 pm23 an23 (.ref cd23) ct23), sl23⟩) (c23 : PySem.W.codeIn K (.ref cd23) "_law_goes" = true) (k23 : PySem.W.keepIn K (.ref f23) = true)
    {f24 : Addr} {od24 an24 : Option Addr} {sl24 : Array (Option Value)} {oc24 kV24 dc24 pm24 ct24 : Value} {cd24 : Addr}
    (a24 : PySem.W.nsIn K mainGlobals "_law_led" = some (some (.ref f24))) (l24 : K.lookup f24 = some ⟨oc24, od24, .func (PySem.W.fnOf "_law_led" "_law_led" (defArgs st__law_led) (defBody st__law_led) (defScope st__law_led) .none kV24 dc24 pm24 an24 (.ref cd24) ct24), sl24⟩) (c24 : PySem.W.codeIn K (.ref cd24) "_law_led" = true) (k24 : PySem.W.keepIn K (.ref f24) = true)
    {f25 : Addr} {od25 an25 : Option Addr} {sl25 : Array (Option Value)} {oc25 kV25 dc25 pm25 ct25 : Value} {cd25 : Addr}
    (a25 : PySem.W.nsIn K mainGlobals "_law_done" = some (some (.ref f25))) (l25 : K.lookup f25 = some ⟨oc25, od25, .func (PySem.W.fnOf "_law_done" "_law_done" (defArgs st__law_done) (defBody st__law_done) (defScope st__law_done) .none kV25 dc25 pm25 an25 (.ref cd25) ct25), sl25⟩) (c25 : PySem.W.codeIn K (.ref cd25) "_law_done" = true) (k25 : PySem.W.keepIn K (.ref f25) = true)
    {f26 : Addr} {od26 an26 : Option Addr} {sl26 : Array (Option Value)} {oc26 kV26 dc26 pm26 ct26 : Value} {cd26 : Addr}
    (a26 : PySem.W.nsIn K mainGlobals "_law_undone" = some (some (.ref f26))) (l26 : K.lookup f26 = some ⟨oc26, od26, .func (PySem.W.fnOf "_law_undone" "_law_undone" (defArgs st__law_undone) (defBody st__law_undone) (defScope st__law_undone) .none kV26 dc26 pm26 an26 (.ref cd26) ct26), sl26⟩) (c26 : PySem.W.codeIn K (.ref cd26) "_law_undone" = true) (k26 : PySem.W.keepIn K (.ref f26) = true)
    {f27 : Addr} {od27 an27 : Option Addr} {sl27 : Array (Option Value)} {oc27 kV27 dc27 pm27 ct27 : Value} {cd27 : Addr}
    (a27 : PySem.W.nsIn K mainGlobals "_law_refused" = some (some (.ref f27))) (l27 : K.lookup f27 = some ⟨oc27, od27, .func (PySem.W.fnOf "_law_refused" "_law_refused" (defArgs st__law_refused) (defBody st__law_refused) (defScope st__law_refused) .none kV27 dc27 pm27 an27 (.ref cd27) ct27), sl27⟩) (c27 : PySem.W.codeIn K (.ref cd27) "_law_refused" = true) (k27 : PySem.W.keepIn K (.ref f27) = true)
    {f28 : Addr} {od28 an28 : Option Addr} {sl28 : Array (Option Value)} {oc28 kV28 dc28 pm28 ct28 : Value} {cd28 : Addr}
    (a28 : PySem.W.nsIn K mainGlobals "_law_led_right" = some (some (.ref f28))) (l28 : K.lookup f28 = some ⟨oc28, od28, .func (PySem.W.fnOf "_law_led_right" "_law_led_right" (defArgs st__law_led_right) (defBody st__law_led_right) (defScope st__law_led_right) .none kV28 dc28 pm28 an28 (.ref cd28) ct28), sl28⟩) (c28 : PySem.W.codeIn K (.ref cd28) "_law_led_right" = true) (k28 : PySem.W.keepIn K (.ref f28) = true)
    {f29 : Addr} {od29 an29 : Option Addr} {sl29 : Array (Option Value)} {oc29 kV29 dc29 pm29 ct29 : Value} {cd29 : Addr}
    (a29 : PySem.W.nsIn K mainGlobals "law" = some (some (.ref f29))) (l29 : K.lookup f29 = some ⟨oc29, od29, .func (PySem.W.fnOf "law" "law" (defArgs st_law) (defBody st_law) (defScope st_law) .none kV29 dc29 pm29 an29 (.ref cd29) ct29), sl29⟩) (c29 : PySem.W.codeIn K (.ref cd29) "law" = true) (k29 : PySem.W.keepIn K (.ref f29) = true)
    {A_COUNTS : Addr} (ga_COUNTS : PySem.W.nsIn K mainGlobals "COUNTS" = some (some (.ref A_COUNTS))) (dw_COUNTS : He.dicW K A_COUNTS = some (He.keysIn w.params ["swap", "turn", "reverse", "deal", "stride"])) {tk_COUNTS0 : Tok} (dv_COUNTS0 : PySem.W.nsIn K A_COUNTS "swap" = some (some (.int 4 tk_COUNTS0))) {tk_COUNTS1 : Tok} (dv_COUNTS1 : PySem.W.nsIn K A_COUNTS "turn" = some (some (.int 3 tk_COUNTS1))) {tk_COUNTS2 : Tok} (dv_COUNTS2 : PySem.W.nsIn K A_COUNTS "reverse" = some (some (.int 2 tk_COUNTS2))) {tk_COUNTS3 : Tok} (dv_COUNTS3 : PySem.W.nsIn K A_COUNTS "deal" = some (some (.int 3 tk_COUNTS3))) {tk_COUNTS4 : Tok} (dv_COUNTS4 : PySem.W.nsIn K A_COUNTS "stride" = some (some (.int 3 tk_COUNTS4)))
    (z_abs : PySem.W.nsIn K mainGlobals "abs" = some none)
    (z_all : PySem.W.nsIn K mainGlobals "all" = some none)
    (z_bool : PySem.W.nsIn K mainGlobals "bool" = some none)
    (z_enumerate : PySem.W.nsIn K mainGlobals "enumerate" = some none)
    (z_int : PySem.W.nsIn K mainGlobals "int" = some none)
    (z_isinstance : PySem.W.nsIn K mainGlobals "isinstance" = some none)
    (z_len : PySem.W.nsIn K mainGlobals "len" = some none)
    (z_list : PySem.W.nsIn K mainGlobals "list" = some none)
    (z_max : PySem.W.nsIn K mainGlobals "max" = some none)
    (z_min : PySem.W.nsIn K mainGlobals "min" = some none)
    (z_range : PySem.W.nsIn K mainGlobals "range" = some none)
    (z_repr : PySem.W.nsIn K mainGlobals "repr" = some none)
    (z_str : PySem.W.nsIn K mainGlobals "str" = some none)
    (z_tuple : PySem.W.nsIn K mainGlobals "tuple" = some none)
    (z_zip : PySem.W.nsIn K mainGlobals "zip" = some none)
    (z_super : PySem.W.nsIn K mainGlobals "super" = some none)
    {C_InvalidMove : Addr} (ga_InvalidMove : PySem.W.nsIn K mainGlobals "InvalidMove" = some (some (.ref C_InvalidMove)))
    {C_Refused : Addr} (ga_Refused : PySem.W.nsIn K mainGlobals "Refused" = some (some (.ref C_Refused)))
    (at_InvalidMove : AtC P K C_InvalidMove) (er_InvalidMove : ErC K C_InvalidMove)
    (at_Refused : AtC P K C_Refused) (er_Refused : ErC K C_Refused)
    (ts_InvalidMove : TsC K C_InvalidMove)
    (ts_Refused : TsC K C_Refused)
    (s_InvalidMove_InvalidMove : PySem.W.subIn K (.ref C_InvalidMove) (.ref C_InvalidMove) = some true)
    (s_InvalidMove_Refused : PySem.W.subIn K (.ref C_InvalidMove) (.ref C_Refused) = some false)
    (s_Refused_InvalidMove : PySem.W.subIn K (.ref C_Refused) (.ref C_InvalidMove) = some false)
    (s_Refused_Refused : PySem.W.subIn K (.ref C_Refused) (.ref C_Refused) = some true)
    : ∃ cs : List (Addr × Addr), (∀ p ∈ cs, ∃ x : Str, ((recsOf q).find? (fun e => e.name == x)).isSome = true ∧ PySem.W.tabIn K x = some p ∧ K.lookup p.2 = none) ∧ ∀ (s : Shared) (a : Addr) (ns : List Int), AtEntry P w K mg cs s fa a ns := by
  have e := hfa.symm.trans (PySem.W.mg_of X G a29)
  cases e
  let T : Txt P w K mg :=
    {
      A_is_integer := f0, c_is_integer := cd0, D_is_integer := _, g_is_integer := PySem.W.mg_of X G a0, F_is_integer := funC_mk (st := st_is_integer) l0 c0 k0,
      A_is_number := f1, c_is_number := cd1, D_is_number := _, g_is_number := PySem.W.mg_of X G a1, F_is_number := funC_mk (st := st_is_number) l1 c1 k1,
      A_is_sequence := f2, c_is_sequence := cd2, D_is_sequence := _, g_is_sequence := PySem.W.mg_of X G a2, F_is_sequence := funC_mk (st := st_is_sequence) l2 c2 k2,
      A_is_index := f3, c_is_index := cd3, D_is_index := _, g_is_index := PySem.W.mg_of X G a3, F_is_index := funC_mk (st := st_is_index) l3 c3 k3,
      A_divisor := f4, c_divisor := cd4, D_divisor := _, g_divisor := PySem.W.mg_of X G a4, F_divisor := funC_mk (st := st_divisor) l4 c4 k4,
      A_size_of := f5, c_size_of := cd5, D_size_of := _, g_size_of := PySem.W.mg_of X G a5, F_size_of := funC_mk (st := st_size_of) l5 c5 k5,
      A_is_move := f6, c_is_move := cd6, D_is_move := _, g_is_move := PySem.W.mg_of X G a6, F_is_move := funC_mk (st := st_is_move) l6 c6 k6,
      A_checked_moves := f7, c_checked_moves := cd7, D_checked_moves := _, g_checked_moves := PySem.W.mg_of X G a7, F_checked_moves := funC_mk (st := st_checked_moves) l7 c7 k7,
      A_moved := f8, c_moved := cd8, D_moved := _, g_moved := PySem.W.mg_of X G a8, F_moved := funC_mk (st := st_moved) l8 c8 k8,
      A_led := f9, c_led := cd9, D_led := _, g_led := PySem.W.mg_of X G a9, F_led := funC_mk (st := st_led) l9 c9 k9,
      A_place_after := f10, c_place_after := cd10, D_place_after := _, g_place_after := PySem.W.mg_of X G a10, F_place_after := funC_mk (st := st_place_after) l10 c10 k10,
      A_spread := f11, c_spread := cd11, D_spread := _, g_spread := PySem.W.mg_of X G a11, F_spread := funC_mk (st := st_spread) l11 c11 k11,
      A_inverse := f12, c_inverse := cd12, D_inverse := _, g_inverse := PySem.W.mg_of X G a12, F_inverse := funC_mk (st := st_inverse) l12 c12 k12,
      A_undone := f13, c_undone := cd13, D_undone := _, g_undone := PySem.W.mg_of X G a13, F_undone := funC_mk (st := st_undone) l13 c13 k13,
      A_undoing := f14, c_undoing := cd14, D_undoing := _, g_undoing := PySem.W.mg_of X G a14, F_undoing := funC_mk (st := st_undoing) l14 c14 k14,
      A__law_draw := f15, c__law_draw := cd15, D__law_draw := _, g__law_draw := PySem.W.mg_of X G a15, F__law_draw := funC_mk (st := st__law_draw) l15 c15 k15,
      A__law_any := f16, c__law_any := cd16, D__law_any := _, g__law_any := PySem.W.mg_of X G a16, F__law_any := funC_mk (st := st__law_any) l16 c16 k16,
      A__law_of := f17, c__law_of := cd17, D__law_of := _, g__law_of := PySem.W.mg_of X G a17, F__law_of := funC_mk (st := st__law_of) l17 c17 k17,
      A__law_large := f18, c__law_large := cd18, D__law_large := _, g__law_large := PySem.W.mg_of X G a18, F__law_large := funC_mk (st := st__law_large) l18 c18 k18,
      A__law_some := f19, c__law_some := cd19, D__law_some := _, g__law_some := PySem.W.mg_of X G a19, F__law_some := funC_mk (st := st__law_some) l19 c19 k19,
      A__law_divisor := f20, c__law_divisor := cd20, D__law_divisor := _, g__law_divisor := PySem.W.mg_of X G a20, F__law_divisor := funC_mk (st := st__law_divisor) l20 c20 k20,
      A__law_move := f21, c__law_move := cd21, D__law_move := _, g__law_move := PySem.W.mg_of X G a21, F__law_move := funC_mk (st := st__law_move) l21 c21 k21,
      A__law_size := f22, c__law_size := cd22, D__law_size := _, g__law_size := PySem.W.mg_of X G a22, F__law_size := funC_mk (st := st__law_size) l22 c22 k22,
      A__law_goes := f23, c__law_goes := cd23, D__law_goes := _, g__law_goes := PySem.W.mg_of X G a23, F__law_goes := funC_mk (st := st__law_goes) l23 c23 k23,
      A__law_led := f24, c__law_led := cd24, D__law_led := _, g__law_led := PySem.W.mg_of X G a24, F__law_led := funC_mk (st := st__law_led) l24 c24 k24,
      A__law_done := f25, c__law_done := cd25, D__law_done := _, g__law_done := PySem.W.mg_of X G a25, F__law_done := funC_mk (st := st__law_done) l25 c25 k25,
      A__law_undone := f26, c__law_undone := cd26, D__law_undone := _, g__law_undone := PySem.W.mg_of X G a26, F__law_undone := funC_mk (st := st__law_undone) l26 c26 k26,
      A__law_refused := f27, c__law_refused := cd27, D__law_refused := _, g__law_refused := PySem.W.mg_of X G a27, F__law_refused := funC_mk (st := st__law_refused) l27 c27 k27,
      A__law_led_right := f28, c__law_led_right := cd28, D__law_led_right := _, g__law_led_right := PySem.W.mg_of X G a28, F__law_led_right := funC_mk (st := st__law_led_right) l28 c28 k28,
      A_law := fa, c_law := cd29, D_law := _, g_law := PySem.W.mg_of X G a29, F_law := funC_mk (st := st_law) l29 c29 k29,
      A_COUNTS := A_COUNTS, g_COUNTS := PySem.W.mg_of X G ga_COUNTS, d_COUNTS := ⟨He.dicW_ok dw_COUNTS, fun z i hz => by
        by_cases h0 : z = ("swap" : Str)
        · subst h0
          have e0 : tab_COUNTS.lookup ("swap" : Str) = some 4 := by decide
          rw [e0] at hz
          cases hz
          exact ⟨_, dv_COUNTS0, ⟨_, rfl⟩⟩
        by_cases h1 : z = ("turn" : Str)
        · subst h1
          have e0 : tab_COUNTS.lookup ("turn" : Str) = some 3 := by decide
          rw [e0] at hz
          cases hz
          exact ⟨_, dv_COUNTS1, ⟨_, rfl⟩⟩
        by_cases h2 : z = ("reverse" : Str)
        · subst h2
          have e0 : tab_COUNTS.lookup ("reverse" : Str) = some 2 := by decide
          rw [e0] at hz
          cases hz
          exact ⟨_, dv_COUNTS2, ⟨_, rfl⟩⟩
        by_cases h3 : z = ("deal" : Str)
        · subst h3
          have e0 : tab_COUNTS.lookup ("deal" : Str) = some 3 := by decide
          rw [e0] at hz
          cases hz
          exact ⟨_, dv_COUNTS3, ⟨_, rfl⟩⟩
        by_cases h4 : z = ("stride" : Str)
        · subst h4
          have e0 : tab_COUNTS.lookup ("stride" : Str) = some 3 := by decide
          rw [e0] at hz
          cases hz
          exact ⟨_, dv_COUNTS4, ⟨_, rfl⟩⟩
        exfalso
        unfold tab_COUNTS at hz
        simp only [List.lookup_cons] at hz
        rw [beq_false_of_ne h0] at hz
        rw [beq_false_of_ne h1] at hz
        rw [beq_false_of_ne h2] at hz
        rw [beq_false_of_ne h3] at hz
        rw [beq_false_of_ne h4] at hz
        cases hz⟩,
      n_abs := PySem.W.mg_none_of X G z_abs,
      n_all := PySem.W.mg_none_of X G z_all,
      n_bool := PySem.W.mg_none_of X G z_bool,
      n_enumerate := PySem.W.mg_none_of X G z_enumerate,
      n_int := PySem.W.mg_none_of X G z_int,
      n_isinstance := PySem.W.mg_none_of X G z_isinstance,
      n_len := PySem.W.mg_none_of X G z_len,
      n_list := PySem.W.mg_none_of X G z_list,
      n_max := PySem.W.mg_none_of X G z_max,
      n_min := PySem.W.mg_none_of X G z_min,
      n_range := PySem.W.mg_none_of X G z_range,
      n_repr := PySem.W.mg_none_of X G z_repr,
      n_str := PySem.W.mg_none_of X G z_str,
      n_tuple := PySem.W.mg_none_of X G z_tuple,
      n_zip := PySem.W.mg_none_of X G z_zip,
      n_super := PySem.W.mg_none_of X G z_super,
      C_InvalidMove := C_InvalidMove, g_InvalidMove := PySem.W.mg_of X G ga_InvalidMove,
      C_Refused := C_Refused, g_Refused := PySem.W.mg_of X G ga_Refused,
      atf_InvalidMove := at_InvalidMove, erf_InvalidMove := er_InvalidMove,
      atf_Refused := at_Refused, erf_Refused := er_Refused,
      ts_InvalidMove := ts_InvalidMove,
      ts_Refused := ts_Refused,
      s_InvalidMove_InvalidMove := s_InvalidMove_InvalidMove,
      s_InvalidMove_Refused := s_InvalidMove_Refused,
      s_Refused_InvalidMove := s_Refused_InvalidMove,
      s_Refused_Refused := s_Refused_Refused }
  refine ⟨[], fun p hp => ?_, fun s a ns => entry_of (A0 := A0 T) rfl ⟨rfl, by decide, by decide⟩ (fun p hp => ?_) fun base hK hns tb => ⟨_, fun s v => .of_eq rfl, (ok_law (P := P) (w := w) (base := base) T { no := trivial } hf)⟩⟩
  · skip
    exact absurd hp List.not_mem_nil
  · skip
    exact absurd hp List.not_mem_nil
end
end DL.K56
open PySem PySem.W PyProof.Rows
set_option maxRecDepth 100000 in
set_option maxHeartbeats 0 in
theorem PySem.Challenge.cw_wheelsandends_k56_whole_where_entries_go_holds : PySem.Challenge.rw_wheelsandends_k56_whole_where_entries_go.Holds := by
  w_on; o_law; k_head; (case hw => w_witness2)
  k_fill
  refine DL.walk_dl (l := PySem.Challenge.rw_wheelsandends_k56_whole_where_entries_go) (n := 63) rfl (by decide) rfl (fun w h Y => by first | exact PySem.W.kIn_of Y | exact PySem.W.km_in_of Y) ?F
  case F =>
    intro w mg fa h KX G hmg
    refine' DL.K56.all_mk KX G hmg DL.K56.law_true ?a0 ?l0 ?c0 ?k0 ?a1 ?l1 ?c1 ?k1 ?a2 ?l2 ?c2 ?k2 ?a3 ?l3 ?c3 ?k3 ?a4 ?l4 ?c4 ?k4 ?a5 ?l5 ?c5 ?k5 ?a6 ?l6 ?c6 ?k6 ?a7 ?l7 ?c7 ?k7 ?a8 ?l8 ?c8 ?k8 ?a9 ?l9 ?c9 ?k9 ?a10 ?l10 ?c10 ?k10 ?a11 ?l11 ?c11 ?k11 ?a12 ?l12 ?c12 ?k12 ?a13 ?l13 ?c13 ?k13 ?a14 ?l14 ?c14 ?k14 ?a15 ?l15 ?c15 ?k15 ?a16 ?l16 ?c16 ?k16 ?a17 ?l17 ?c17 ?k17 ?a18 ?l18 ?c18 ?k18 ?a19 ?l19 ?c19 ?k19 ?a20 ?l20 ?c20 ?k20 ?a21 ?l21 ?c21 ?k21 ?a22 ?l22 ?c22 ?k22 ?a23 ?l23 ?c23 ?k23 ?a24 ?l24 ?c24 ?k24 ?a25 ?l25 ?c25 ?k25 ?a26 ?l26 ?c26 ?k26 ?a27 ?l27 ?c27 ?k27 ?a28 ?l28 ?c28 ?k28 ?a29 ?l29 ?c29 ?k29 ?ga_COUNTS ?dw_COUNTS ?dv_COUNTS0 ?dv_COUNTS1 ?dv_COUNTS2 ?dv_COUNTS3 ?dv_COUNTS4 ?z_abs ?z_all ?z_bool ?z_enumerate ?z_int ?z_isinstance ?z_len ?z_list ?z_max ?z_min ?z_range ?z_repr ?z_str ?z_tuple ?z_zip ?z_super ?ga_InvalidMove ?ga_Refused ?at_InvalidMove ?er_InvalidMove ?at_Refused ?er_Refused ?ts_InvalidMove ?ts_Refused ?s_InvalidMove_InvalidMove ?s_InvalidMove_Refused ?s_Refused_InvalidMove ?s_Refused_Refused
    (case a0 => k_is)
    (case l0 => k_is)
    (case c0 => k_is)
    (case k0 => k_is)
    (case a1 => k_is)
    (case l1 => k_is)
    (case c1 => k_is)
    (case k1 => k_is)
    (case a2 => k_is)
    (case l2 => k_is)
    (case c2 => k_is)
    (case k2 => k_is)
    (case a3 => k_is)
    (case l3 => k_is)
    (case c3 => k_is)
    (case k3 => k_is)
    (case a4 => k_is)
    (case l4 => k_is)
    (case c4 => k_is)
    (case k4 => k_is)
    (case a5 => k_is)
    (case l5 => k_is)
    (case c5 => k_is)
    (case k5 => k_is)
    (case a6 => k_is)
    (case l6 => k_is)
    (case c6 => k_is)
    (case k6 => k_is)
    (case a7 => k_is)
    (case l7 => k_is)
    (case c7 => k_is)
    (case k7 => k_is)
    (case a8 => k_is)
    (case l8 => k_is)
    (case c8 => k_is)
    (case k8 => k_is)
    (case a9 => k_is)
    (case l9 => k_is)
    (case c9 => k_is)
    (case k9 => k_is)
    (case a10 => k_is)
    (case l10 => k_is)
    (case c10 => k_is)
    (case k10 => k_is)
    (case a11 => k_is)
    (case l11 => k_is)
    (case c11 => k_is)
    (case k11 => k_is)
    (case a12 => k_is)
    (case l12 => k_is)
    (case c12 => k_is)
    (case k12 => k_is)
    (case a13 => k_is)
    (case l13 => k_is)
    (case c13 => k_is)
    (case k13 => k_is)
    (case a14 => k_is)
    (case l14 => k_is)
    (case c14 => k_is)
    (case k14 => k_is)
    (case a15 => k_is)
    (case l15 => k_is)
    (case c15 => k_is)
    (case k15 => k_is)
    (case a16 => k_is)
    (case l16 => k_is)
    (case c16 => k_is)
    (case k16 => k_is)
    (case a17 => k_is)
    (case l17 => k_is)
    (case c17 => k_is)
    (case k17 => k_is)
    (case a18 => k_is)
    (case l18 => k_is)
    (case c18 => k_is)
    (case k18 => k_is)
    (case a19 => k_is)
    (case l19 => k_is)
    (case c19 => k_is)
    (case k19 => k_is)
    (case a20 => k_is)
    (case l20 => k_is)
    (case c20 => k_is)
    (case k20 => k_is)
    (case a21 => k_is)
    (case l21 => k_is)
    (case c21 => k_is)
    (case k21 => k_is)
    (case a22 => k_is)
    (case l22 => k_is)
    (case c22 => k_is)
    (case k22 => k_is)
    (case a23 => k_is)
    (case l23 => k_is)
    (case c23 => k_is)
    (case k23 => k_is)
    (case a24 => k_is)
    (case l24 => k_is)
    (case c24 => k_is)
    (case k24 => k_is)
    (case a25 => k_is)
    (case l25 => k_is)
    (case c25 => k_is)
    (case k25 => k_is)
    (case a26 => k_is)
    (case l26 => k_is)
    (case c26 => k_is)
    (case k26 => k_is)
    (case a27 => k_is)
    (case l27 => k_is)
    (case c27 => k_is)
    (case k27 => k_is)
    (case a28 => k_is)
    (case l28 => k_is)
    (case c28 => k_is)
    (case k28 => k_is)
    (case a29 => k_is)
    (case l29 => k_is)
    (case c29 => k_is)
    (case k29 => k_is)
    (case ga_COUNTS => k_is)
    (case dw_COUNTS => first | k_is | rfl | kernel_rfl | decide +kernel)
    (case dv_COUNTS0 => k_is)
    (case dv_COUNTS1 => k_is)
    (case dv_COUNTS2 => k_is)
    (case dv_COUNTS3 => k_is)
    (case dv_COUNTS4 => k_is)
    (case z_abs => k_is)
    (case z_all => k_is)
    (case z_bool => k_is)
    (case z_enumerate => k_is)
    (case z_int => k_is)
    (case z_isinstance => k_is)
    (case z_len => k_is)
    (case z_list => k_is)
    (case z_max => k_is)
    (case z_min => k_is)
    (case z_range => k_is)
    (case z_repr => k_is)
    (case z_str => k_is)
    (case z_tuple => k_is)
    (case z_zip => k_is)
    (case z_super => k_is)
    (case ga_InvalidMove => k_is)
    (case ga_Refused => k_is)
    (case at_InvalidMove => (refine' DL.atC_mk ?hC ?hbm ?iC ?lk ?hcd ?hbind ?hp ?har ?hcode ?hvs ?hfile ?hcell ?s1 ?s2 ?s3 ?s4 ?s5 ?s6 ?s7 ?s8 ?s9 ?htop ?hopq ?hsup ?hB ?hmro ?tI ?sa ?exC ?tyC ?kC ?no; (case hC => k_is); (case hbm => decide +kernel); (case iC => k_is); (case lk => k_is); (case hcd => k_is); (case hbind => exact fun _ _ _ => .of_eq rfl); (case hp => exact rfl); (case har => exact rfl); (case hcode => k_is); (case hvs => exact rfl); (case hfile => decide +kernel); (case hcell => k_is); (case s1 => exact rfl); (case s2 => exact rfl); (case s3 => exact rfl); (case s4 => exact rfl); (case s5 => exact rfl); (case s6 => decide +kernel); (case s7 => exact rfl); (case s8 => exact rfl); (case s9 => exact rfl); (case htop => decide +kernel); (case hopq => k_is); (case hsup => kernel_rfl); (case hB => k_is); (case hmro => k_is); (case tI => k_is); (case sa => k_is); (case exC => k_is); (case tyC => k_is); (case kC => k_is); (case no => k_is)))
    (case er_InvalidMove => (exact ⟨⟨by k_is, by k_is, by k_is, by k_is, by k_is, by k_is, by k_is, by k_is⟩, by k_is⟩))
    (case at_Refused => (refine' DL.atC_mk ?hC ?hbm ?iC ?lk ?hcd ?hbind ?hp ?har ?hcode ?hvs ?hfile ?hcell ?s1 ?s2 ?s3 ?s4 ?s5 ?s6 ?s7 ?s8 ?s9 ?htop ?hopq ?hsup ?hB ?hmro ?tI ?sa ?exC ?tyC ?kC ?no; (case hC => k_is); (case hbm => decide +kernel); (case iC => k_is); (case lk => k_is); (case hcd => k_is); (case hbind => exact fun _ _ _ => .of_eq rfl); (case hp => exact rfl); (case har => exact rfl); (case hcode => k_is); (case hvs => exact rfl); (case hfile => decide +kernel); (case hcell => k_is); (case s1 => exact rfl); (case s2 => exact rfl); (case s3 => exact rfl); (case s4 => exact rfl); (case s5 => exact rfl); (case s6 => decide +kernel); (case s7 => exact rfl); (case s8 => exact rfl); (case s9 => exact rfl); (case htop => decide +kernel); (case hopq => k_is); (case hsup => kernel_rfl); (case hB => k_is); (case hmro => k_is); (case tI => k_is); (case sa => k_is); (case exC => k_is); (case tyC => k_is); (case kC => k_is); (case no => k_is)))
    (case er_Refused => (exact ⟨⟨by k_is, by k_is, by k_is, by k_is, by k_is, by k_is, by k_is, by k_is⟩, by k_is⟩))
    (case ts_InvalidMove => (exact ⟨by k_is, by k_is, by k_is, by first | k_is | kernel_rfl⟩))
    (case ts_Refused => (exact ⟨by k_is, by k_is, by k_is, by first | k_is | kernel_rfl⟩))
    (case s_InvalidMove_InvalidMove => first | k_is | kernel_rfl)
    (case s_InvalidMove_Refused => first | k_is | kernel_rfl)
    (case s_Refused_InvalidMove => first | k_is | kernel_rfl)
    (case s_Refused_Refused => first | k_is | kernel_rfl)
